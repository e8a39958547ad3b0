import PyProof.Rows.All
import Wide.All
import OpenK.AllK
import Wide.FinOn
import HandS.ForMost
import HandS.ForExc
import HandS.Walk
import HandS.Lambda
import HandS.Zip
import HandS.Defaults
import HandS.ExcCtx
import HandS.HotCalls
import HandS.ExcIs
import HandS.IsInst
import HandS.Wide
import HandS.TupAny
import HandS.TupMul
import HandS.TupLe
import HandS.Deep
import HandS.Style
import HandS.SortInts
import KE.DatumOrd
import HandS.SortKw
import HandS.Head0
import HandS.Head1
import HandS.Head2
import HandS.HeadEnd
import HandS.HeadHook1
import HandS.HeadHook2
import HandS.HeadHook3
import HandS.HeadHook4
import HandS.HeadWalk
import HandS.Conv
import HandS.CallLocal
import HandS.SetFor
import KE.KTupSum
import HandS.Strs
import HandS.TupSets
import HandS.Sort
import PySem.Challenge.RW_fewlooks_k70_whole_halves
set_option Elab.async false
set_option linter.all false
set_option maxRecDepth 100000
set_option maxHeartbeats 2000000
/-! FL: a layer of values over HandS. D: data; Rp: a value stands for data in the part M of the heap that nobody changes. -/
namespace FL
open PySem PySem.Spec PyProof.Rows L2 LamX

inductive D where
  | non | bl (b : Bool) | int (i : Int) | str (x : Str) | lst (xs : List D) | tup (xs : List D) | fn (x : Str) | ty (n : String) | scr (ns : List Int) | opq (a : Addr)

inductive Out (α : Type) where
  | ok (a : α) | exc (c : Str) | bad
def Out.bind {α β : Type} (o : Out α) (f : α → Out β) : Out β := match o with
  | .ok a => f a
  | .exc c => .exc c
  | .bad => .bad

section
variable (K : PySem.W.Frag) (mg : Str → Option Value) (M : Hp)
mutual
inductive Rp : V → D → Prop
  | non : Rp .non .non
  | bl (b : Bool) : Rp (.bl b) (.bl b)
  | int (i : Int) : Rp (.int i) (.int i)
  | str (x : Str) : Rp (.str x) (.str x)
  | lst {a : Addr} {vs : List V} {ds : List D} : M a = some (.lst vs) → RpL vs ds → Rp (.ref a) (.lst ds)
  | tup {a : Addr} {vs : List V} {ds : List D} : SqT K M a vs → RpL vs ds → Rp (.ref a) (.tup ds)
  | fn {x : Str} {f : Addr} : mg x = some (.ref f) → Rp (.ref f) (.fn x)
  | ty (n : String) : Rp (.ty n) (.ty n)
  | scr {a : Addr} {ns : List Int} : SqL K M a (ns.map V.int) → Rp (.ref a) (.scr ns)
  | opq (a : Addr) : Rp (.ref a) (.opq a)
inductive RpL : List V → List D → Prop
  | nil : RpL [] []
  | cons {v : V} {vs : List V} {d : D} {ds : List D} : Rp v d → RpL vs ds → RpL (v :: vs) (d :: ds)
end
end

variable {K : PySem.W.Frag} {mg : Str → Option Value} {T : List (Addr × Str)} {H0 M M' M1 M2 H H' H1 H2 : Hp}

theorem same_sqT {a : Addr} {xs : List V} (e : Same M M') (h : SqT K M a xs) : SqT K M' a xs := by
  rcases h with (h | ⟨o, h⟩) | h
  · exact .inl (.inl (e _ _ h))
  · exact .inl (.inr ⟨o, e _ _ h⟩)
  · exact .inr h
mutual
theorem Rp.mono (e : Same M M') : ∀ {v : V} {d : D}, Rp K mg M v d → Rp K mg M' v d
  | _, _, .non => .non
  | _, _, .bl b => .bl b
  | _, _, .int i => .int i
  | _, _, .str x => .str x
  | _, _, .lst h r => .lst (e _ _ h) (RpL.mono e r)
  | _, _, .tup h r => .tup (same_sqT e h) (RpL.mono e r)
  | _, _, .fn h => .fn h
  | _, _, .ty n => .ty n
  | _, _, .scr h => .scr (e.seq h)
  | _, _, .opq a => .opq a
theorem RpL.mono (e : Same M M') : ∀ {vs : List V} {ds : List D}, RpL K mg M vs ds → RpL K mg M' vs ds
  | _, _, .nil => .nil
  | _, _, .cons h r => .cons (Rp.mono e h) (RpL.mono e r)
end
theorem RpL.length : ∀ {vs : List V} {ds : List D}, RpL K mg M vs ds → vs.length = ds.length
  | _, _, .nil => rfl
  | _, _, .cons _ r => by simp [RpL.length r]
theorem RpL.append : ∀ {vs ws : List V} {ds es : List D}, RpL K mg M vs ds → RpL K mg M ws es → RpL K mg M (vs ++ ws) (ds ++ es)
  | _, _, _, _, .nil, s => s
  | _, _, _, _, .cons h r, s => .cons h (RpL.append r s)
theorem RpL.get : ∀ {vs : List V} {ds : List D} {i : Nat} {d : D}, RpL K mg M vs ds → ds[i]? = some d → ∃ v, vs[i]? = some v ∧ Rp K mg M v d
  | _, _, _, _, .nil, e => by simp at e
  | _, _, 0, _, .cons h _, e => by simp at e; subst e; exact ⟨_, rfl, h⟩
  | _, _, i + 1, d, .cons _ r, e => by
    obtain ⟨u, h1, h2⟩ := RpL.get (i := i) (d := d) r (by simpa using e)
    exact ⟨u, by simpa using h1, h2⟩
theorem RpL.get' : ∀ {vs : List V} {ds : List D} {i : Nat} {v : V}, RpL K mg M vs ds → vs[i]? = some v → ∃ d, ds[i]? = some d ∧ Rp K mg M v d
  | _, _, _, _, .nil, e => by simp at e
  | _, _, 0, _, .cons h _, e => by simp at e; subst e; exact ⟨_, rfl, h⟩
  | _, _, i + 1, d, .cons _ r, e => by
    obtain ⟨u, h1, h2⟩ := RpL.get' (i := i) (v := d) r (by simpa using e)
    exact ⟨u, by simpa using h1, h2⟩
theorem RpL.take : ∀ {vs : List V} {ds : List D} (n : Nat), RpL K mg M vs ds → RpL K mg M (vs.take n) (ds.take n)
  | _, _, 0, _ => by simpa using RpL.nil
  | _, _, _ + 1, .nil => .nil
  | _, _, n + 1, .cons h r => .cons h (RpL.take n r)
theorem RpL.drop : ∀ {vs : List V} {ds : List D} (n : Nat), RpL K mg M vs ds → RpL K mg M (vs.drop n) (ds.drop n)
  | _, _, 0, r => r
  | _, _, _ + 1, .nil => .nil
  | _, _, n + 1, .cons _ r => RpL.drop n r
theorem RpL.set {v : V} {d : D} (h : Rp K mg M v d) : ∀ {vs : List V} {ds : List D} (i : Nat), RpL K mg M vs ds → RpL K mg M (vs.set i v) (ds.set i d)
  | _, _, _, .nil => .nil
  | _, _, 0, .cons _ r => .cons h r
  | _, _, i + 1, .cons q r => .cons q (RpL.set h i r)
theorem RpL.reverse : ∀ {vs : List V} {ds : List D}, RpL K mg M vs ds → RpL K mg M vs.reverse ds.reverse
  | _, _, .nil => .nil
  | _, _, .cons h r => by
    simp only [List.reverse_cons]
    exact RpL.append (RpL.reverse r) (.cons h .nil)

/-! ### what may change: nothing but new things, tables of code objects; M' is M and new things -/
structure Ext (T : List (Addr × Str)) (M H M' H' : Hp) : Prop where
  kp : ExtN H H'
  tb : Tabs T H → Tabs T H'
  mm : Same M M'
  ms : Same M' H'
  nt : ∀ a ps, M' a ≠ some (.tbl ps)
  nw : ∀ a o, M' a = some o → M a = some o ∨ ∀ u, H a = some u → ∃ ps, u = .tbl ps
theorem Ext.trans (a : Ext T M H M1 H1) (b : Ext T M1 H1 M2 H2) : Ext T M H M2 H2 where
  kp := a.kp.trans b.kp
  tb := fun h => b.tb (a.tb h)
  mm := a.mm.trans b.mm
  ms := b.ms
  nt := b.nt
  nw := fun x o h => by
    rcases b.nw x o h with q | q
    · exact a.nw x o q
    · refine .inr fun u e => ?_
      by_cases ht : ∃ ps, u = .tbl ps
      · exact ht
      · exact q u (a.kp x u e (fun ps z => ht ⟨ps, z⟩))
theorem Ext.refl (ms : Same M H) (nt : ∀ a ps, M a ≠ some (.tbl ps)) : Ext T M H M H :=
  ⟨ExtN.refl H, fun h => h, Same.refl M, ms, nt, fun _ _ h => .inl h⟩
theorem same_upd {H : Hp} {p : Addr} {o : HO} (h : H p = none) : Same H (upd H p o) := fun a u e => by
  rw [upd_ne (ne_of_none e h)]
  exact e
/-- something new that nobody changes later -/
theorem Ext.new {p : Addr} {o : HO} (ms : Same M H) (nt : ∀ a ps, M a ≠ some (.tbl ps)) (hp : H p = none) (ho : ∀ ps, o ≠ .tbl ps) : Ext T M H (upd M p o) (upd H p o) where
  kp := ExtN.of (same_upd hp)
  tb := fun h => h.ext (same_upd hp)
  mm := same_upd (by
    cases e : M p with
    | none => rfl
    | some u =>
      rw [ms p u e] at hp
      cases hp)
  ms := fun a u e => by
    by_cases q : a = p
    · subst q
      rw [upd_same] at e ⊢
      exact e
    · rw [upd_ne q] at e ⊢
      exact ms a u e
  nt := fun a ps e => by
    by_cases q : a = p
    · subst q
      rw [upd_same] at e
      exact ho ps (Option.some.inj e)
    · rw [upd_ne q] at e
      exact nt a ps e
  nw := fun a u e => by
    by_cases q : a = p
    · subst q
      exact .inr fun u h => by
        rw [hp] at h
        cases h
    · rw [upd_ne q] at e
      exact .inl e
/-- the heap grows, M stays -/
theorem Ext.grow (ms : Same M H) (nt : ∀ a ps, M a ≠ some (.tbl ps)) (e : Same H H') : Ext T M H M H' :=
  ⟨ExtN.of e, fun h => h.ext e, Same.refl M, ms.trans e, nt, fun _ _ h => .inl h⟩

/-! ### the names of a def -/
inductive Sl where
  | dat (d : D) | own (ds : List D) | dct (kvs : List (L2.Key × D))
abbrev Env := List (Option Sl)
section
variable (K : PySem.W.Frag) (mg : Str → Option Value) (M : Hp)
/-- the pairs of a dict -/
inductive RpK : List (L2.Key × V) → List (L2.Key × D) → Prop
  | nil : RpK [] []
  | cons {k : L2.Key} {v : V} {d : D} {ws : List (L2.Key × V)} {ks : List (L2.Key × D)} : Rp K mg M v d → RpK ws ks → RpK ((k, v) :: ws) ((k, d) :: ks)
end
theorem RpK.mono (e : Same M M') : ∀ {ws : List (L2.Key × V)} {ks : List (L2.Key × D)}, RpK K mg M ws ks → RpK K mg M' ws ks
  | _, _, .nil => .nil
  | _, _, .cons h r => .cons (h.mono e) (RpK.mono e r)
theorem set_get {Γ : Env} {i j : Nat} {x y : Option Sl} (q : (Γ.set i x)[j]? = some y) : (i = j ∧ i < Γ.length ∧ y = x) ∨ (i ≠ j ∧ Γ[j]? = some y) := by
  by_cases hj : i = j
  · subst hj
    by_cases hi : i < Γ.length
    · rw [List.getElem?_set_self hi] at q
      exact .inl ⟨rfl, hi, (Option.some.inj q).symm⟩
    · rw [List.getElem?_eq_none (by rw [List.length_set]; omega)] at q
      cases q
  · rw [List.getElem?_set_ne hj] at q
    exact .inr ⟨hj, q⟩
/-- new since the entry -/
def Fr (H0 : Hp) (a : Addr) : Prop := ∀ u, H0 a = some u → ∃ ps, u = .tbl ps
/-- Γ tells what the slots σ hold: data, or a list of its own that nobody else holds -/
structure Rs (K : PySem.W.Frag) (mg : Str → Option Value) (T : List (Addr × Str)) (H0 M H : Hp) (Γ : Env) (σ : L2.St) : Prop where
  ms : Same M H
  nt : ∀ a ps, M a ≠ some (.tbl ps)
  tb : Tabs T H
  len : Γ.length = σ.length
  dat : ∀ (i : Nat) d, Γ[i]? = some (some (.dat d)) → ∃ v, σ[i]? = some (some v) ∧ Rp K mg M v d
  own : ∀ (i : Nat) ds, Γ[i]? = some (some (.own ds)) → ∃ a vs, σ[i]? = some (some (.ref a)) ∧ H a = some (.lst vs) ∧ M a = none ∧ Fr H0 a ∧ RpL K mg M vs ds
  inj : ∀ (i j : Nat) ds es a, Γ[i]? = some (some (.own ds)) → Γ[j]? = some (some (.own es)) → σ[i]? = some (some (.ref a)) → σ[j]? = some (some (.ref a)) → i = j
  dct : ∀ (i : Nat) ks, Γ[i]? = some (some (.dct ks)) → ∃ a ws, σ[i]? = some (some (.ref a)) ∧ H a = some (.dK ws) ∧ M a = none ∧ Fr H0 a ∧ RpK K mg M ws ks
  djn : ∀ (i j : Nat) ks ls a, Γ[i]? = some (some (.dct ks)) → Γ[j]? = some (some (.dct ls)) → σ[i]? = some (some (.ref a)) → σ[j]? = some (some (.ref a)) → i = j
theorem Ext.out (e : Ext T M H M' H') {a : Addr} {o : HO} (hm : M a = none) (hh : H a = some o) (ho : ∀ ps, o ≠ .tbl ps) : M' a = none ∧ H' a = some o := by
  refine ⟨?_, e.kp a o hh ho⟩
  cases q : M' a with
  | none => rfl
  | some u =>
    rcases e.nw a u q with z | z
    · rw [hm] at z
      cases z
    · obtain ⟨ps, h⟩ := z o hh
      exact absurd h (ho ps)
variable {Γ Γ' : Env} {σ σ' : L2.St}
theorem Rs.ext (r : Rs K mg T H0 M H Γ σ) (e : Ext T M H M' H') : Rs K mg T H0 M' H' Γ σ where
  ms := e.ms
  nt := e.nt
  tb := e.tb r.tb
  len := r.len
  dat := fun i d h => by
    obtain ⟨v, h1, h2⟩ := r.dat i d h
    exact ⟨v, h1, h2.mono e.mm⟩
  own := fun i ds h => by
    obtain ⟨a, vs, h1, h2, h3, hf, h4⟩ := r.own i ds h
    obtain ⟨q1, q2⟩ := e.out h3 h2 (fun ps z => by cases z)
    exact ⟨a, vs, h1, q2, q1, hf, h4.mono e.mm⟩
  inj := r.inj
  dct := fun i ks h => by
    obtain ⟨a, ws, h1, h2, h3, hf, h4⟩ := r.dct i ks h
    obtain ⟨q1, q2⟩ := e.out h3 h2 (fun ps z => by cases z)
    exact ⟨a, ws, h1, q2, q1, hf, h4.mono e.mm⟩
  djn := r.djn
theorem Rs.ext0 (r : Rs K mg T H0 M H Γ σ) : Ext T M H M H := Ext.refl r.ms r.nt

/-! ### readings -/
def Fin (K : PySem.W.Frag) (mg : Str → Option Value) (T : List (Addr × Str)) (M H : Hp) (Q : VK) (E : XK) : Out D → Prop
  | .ok d => ∀ v H' M', Ext T M H M' H' → Rp K mg M' v d → Q v H'
  | .exc c => ∀ C H' M', Ext T M H M' H' → mg c = some (.ref C) → E (.ref C) none H'
  | .bad => False
def FinA (K : PySem.W.Frag) (mg : Str → Option Value) (T : List (Addr × Str)) (M H : Hp) (Q : List V → Hp → Prop) (E : XK) : Out (List D) → Prop
  | .ok ds => ∀ vs H' M', Ext T M H M' H' → RpL K mg M' vs ds → Q vs H'
  | .exc c => ∀ C H' M', Ext T M H M' H' → mg c = some (.ref C) → E (.ref C) none H'
  | .bad => False
def FinT (mg : Str → Option Value) (T : List (Addr × Str)) (M H : Hp) (Q : Bool → Hp → Prop) (E : XK) : Out Bool → Prop
  | .ok b => ∀ H' M', Ext T M H M' H' → Q b H'
  | .exc c => ∀ C H' M', Ext T M H M' H' → mg c = some (.ref C) → E (.ref C) none H'
  | .bad => False
def tOf (K : PySem.W.Frag) (mg : Str → Option Value) (T : List (Addr × Str)) (E : XK) (m : Env → Out D) : TE := fun σ H Q => ∃ Γ M H0, Rs K mg T H0 M H Γ σ ∧ Fin K mg T M H Q E (m Γ)
def taOf (K : PySem.W.Frag) (mg : Str → Option Value) (T : List (Addr × Str)) (E : XK) (m : Env → Out (List D)) : TA := fun σ H Q => ∃ Γ M H0, Rs K mg T H0 M H Γ σ ∧ FinA K mg T M H Q E (m Γ)
def ttOf (K : PySem.W.Frag) (mg : Str → Option Value) (T : List (Addr × Str)) (E : XK) (m : Env → Out Bool) : TT := fun σ H Q => ∃ Γ M H0, Rs K mg T H0 M H Γ σ ∧ FinT mg T M H Q E (m Γ)

theorem weakE {X : Cx} {e : Expr} {t t' : TE} (h : PE X e t) (w : ∀ σ H Q, t' σ H Q → t σ H Q) : PE X e t' := ⟨fun pins s σ H Q I q => h.run pins s σ H Q I (w σ H Q q)⟩
theorem weakT {X : Cx} {e : Expr} {t t' : TT} (h : PT X e t) (w : ∀ σ H Q, t' σ H Q → t σ H Q) : PT X e t' := ⟨fun pins s σ H Q I q => h.run pins s σ H Q I (w σ H Q q)⟩
theorem weakW {X : Cx} {e : Expr} {t t' : TT} (h : PW X e t) (w : ∀ σ H Q, t' σ H Q → t σ H Q) : PW X e t' := ⟨fun wh pins s σ H Q I q => h.run wh pins s σ H Q I (w σ H Q q)⟩
theorem weakA {X : Cx} {es : List Expr} {t t' : TA} (h : PA X es t) (w : ∀ σ H Q, t' σ H Q → t σ H Q) : PA X es t' := ⟨fun pos pins s σ H Q I q => h.run pos pins s σ H Q I (w σ H Q q)⟩
theorem weakS {X : Cx} {e : Stmt} {t t' : TS} (h : PS X e t) (w : ∀ D σ H, t' D σ H → t D σ H) : PS X e t' := ⟨fun pins s σ H D I q => h.run pins s σ H D I (w D σ H q)⟩
theorem weakSs {X : Cx} {e : List Stmt} {t t' : TS} (h : PSs X e t) (w : ∀ D σ H, t' D σ H → t D σ H) : PSs X e t' := ⟨fun pins s σ H D I q => h.run pins s σ H D I (w D σ H q)⟩

/-- the first part of a reading done: go on behind it -/
theorem Fin.bind {Q Q' : VK} {E : XK} {o : Out D} {f : D → Out D} (h : Fin K mg T M H Q E (o.bind f))
    (k : ∀ d v H1 M1, o = .ok d → Ext T M H M1 H1 → Rp K mg M1 v d → Fin K mg T M1 H1 Q E (f d) → Q' v H1) : Fin K mg T M H Q' E o := by
  cases o with
  | ok d =>
    intro v H1 M1 e r
    refine k d v H1 M1 rfl e r ?_
    have h : Fin K mg T M H Q E (f d) := h
    cases q : f d with
    | ok d2 =>
      rw [q] at h
      exact fun v2 H2 M2 e2 r2 => h v2 H2 M2 (e.trans e2) r2
    | exc c =>
      rw [q] at h
      exact fun C H2 M2 e2 r2 => h C H2 M2 (e.trans e2) r2
    | bad =>
      rw [q] at h
      exact h
  | exc c => exact h
  | bad => exact h
theorem Fin.up {Q : VK} {E : XK} {o : Out D} (h : Fin K mg T M H Q E o) (e : Ext T M H M1 H1) : Fin K mg T M1 H1 Q E o := by
  cases o with
  | ok d => exact fun v2 H2 M2 e2 r2 => h v2 H2 M2 (e.trans e2) r2
  | exc c => exact fun C H2 M2 e2 r2 => h C H2 M2 (e.trans e2) r2
  | bad => exact h
theorem FinA.up {Q : List V → Hp → Prop} {E : XK} {o : Out (List D)} (h : FinA K mg T M H Q E o) (e : Ext T M H M1 H1) : FinA K mg T M1 H1 Q E o := by
  cases o with
  | ok d => exact fun v2 H2 M2 e2 r2 => h v2 H2 M2 (e.trans e2) r2
  | exc c => exact fun C H2 M2 e2 r2 => h C H2 M2 (e.trans e2) r2
  | bad => exact h
theorem FinT.up {Q : Bool → Hp → Prop} {E : XK} {o : Out Bool} (h : FinT mg T M H Q E o) (e : Ext T M H M1 H1) : FinT mg T M1 H1 Q E o := by
  cases o with
  | ok d => exact fun H2 M2 e2 => h H2 M2 (e.trans e2)
  | exc c => exact fun C H2 M2 e2 r2 => h C H2 M2 (e.trans e2) r2
  | bad => exact h

/-! ### meanings -/
def mVar (i : Nat) : Env → Out D := fun Γ => match Γ[i]? with
  | some (some (.dat d)) => .ok d
  | _ => .bad
def mC (d : D) : Env → Out D := fun _ => .ok d
def m1 (f : D → Out D) (a : Env → Out D) : Env → Out D := fun Γ => (a Γ).bind f
def m2 (f : D → D → Out D) (a b : Env → Out D) : Env → Out D := fun Γ => (a Γ).bind fun x => (b Γ).bind (f x)
def mNil : Env → Out (List D) := fun _ => .ok []
def mCons (a : Env → Out D) (b : Env → Out (List D)) : Env → Out (List D) := fun Γ => (a Γ).bind fun x => (b Γ).bind fun xs => .ok (x :: xs)
def mN (f : List D → Out D) (a : Env → Out (List D)) : Env → Out D := fun Γ => (a Γ).bind f
section
variable {X : Cx} {E : XK}
abbrev PEm (X : Cx) (T : List (Addr × Str)) (E : XK) (e : Expr) (m : Env → Out D) : Prop := PE X e (tOf X.K X.mg T E m)
abbrev PAm (X : Cx) (T : List (Addr × Str)) (E : XK) (e : List Expr) (m : Env → Out (List D)) : Prop := PA X e (taOf X.K X.mg T E m)
abbrev PTm (X : Cx) (T : List (Addr × Str)) (E : XK) (e : Expr) (m : Env → Out Bool) : Prop := PT X e (ttOf X.K X.mg T E m)
abbrev PWm (X : Cx) (T : List (Addr × Str)) (E : XK) (e : Expr) (m : Env → Out Bool) : Prop := PW X e (ttOf X.K X.mg T E m)
theorem ev (i : Nat) {x : Str} {pos : Pos} (hN : X.N[i]? = some x := by rfl) (hv : Vis X.env.scope x := by first | exact Or.inl rfl | exact Or.inr (Or.inl rfl) | exact Or.inr (Or.inr rfl)) (hd : (x == ("__debug__" : Str)) = false := by decide)
    (hcd : (x == ("__classdict__" : Str)) = false := by decide) : PEm X T E (.Name x pos) (mVar i) := by
  refine weakE (pe_var hN hv hd hcd) fun σ H Q h => ?_
  obtain ⟨Γ, M, H0, r, f⟩ := h
  unfold mVar at f
  cases q : Γ[i]? with
  | none =>
    rw [q] at f
    exact f.elim
  | some o =>
    rw [q] at f
    cases o with
    | none => exact f.elim
    | some sl =>
      cases sl with
      | own ds => exact f.elim
      | dct ks => exact f.elim
      | dat d =>
        obtain ⟨v, h1, h2⟩ := r.dat i d q
        exact ⟨v, h1, f v H M r.ext0 h2⟩
theorem ec {e : Expr} {v : V} {d : D} (h : PE X e (tC v)) (hr : ∀ M, Rp X.K X.mg M v d) : PEm X T E e (mC d) := by
  refine weakE h fun σ H Q h => ?_
  obtain ⟨Γ, M, H0, r, f⟩ := h
  exact f v H M r.ext0 (hr M)
theorem e_int {i j pos} : PEm X T E (.Constant (.int i) j pos) (mC (.int i)) := ec pe_int fun _ => .int i
theorem e_bl {b j pos} : PEm X T E (.Constant (.bool b) j pos) (mC (.bl b)) := ec pe_bl fun _ => .bl b
theorem e_non {j pos} : PEm X T E (.Constant .none j pos) (mC .non) := ec pe_non fun _ => .non
theorem e_str {x j pos} : PEm X T E (.Constant (.str x) j pos) (mC (.str x)) := ec pe_str fun _ => .str x

/-- a two-place operation's rule and its data -/
def OpD (K : PySem.W.Frag) (mg : Str → Option Value) (T : List (Addr × Str)) (r : R2) (f : D → D → Out D) : Prop :=
  ∀ x y dx dy M H Q d, Same M H → (∀ a ps, M a ≠ some (.tbl ps)) → Rp K mg M x dx → Rp K mg M y dy → f dx dy = .ok d → (∀ v H' M', Ext T M H M' H' → Rp K mg M' v d → Q v H') → r x y H Q
def noX (f : D → D → Out D) : Prop := ∀ x y c, f x y ≠ .exc c
theorem tOp_of {r : R2} {f : D → D → Out D} {a b : Env → Out D} (hd : OpD K mg T r f) (hx : noX f) {σ : L2.St} {H : Hp} {Q : VK} (h : tOf K mg T E (m2 f a b) σ H Q) : tOp r (tOf K mg T E a) (tOf K mg T E b) σ H Q := by
  obtain ⟨Γ, M, H0, rs, fn⟩ := h
  refine ⟨Γ, M, H0, rs, Fin.bind fn fun d v H1 M1 _ e1 r1 f1 => ?_⟩
  refine ⟨Γ, M1, H0, rs.ext e1, Fin.bind f1 fun d2 v2 H2 M2 _ e2 r2 f2 => ?_⟩
  have rs2 := (rs.ext e1).ext e2
  cases q : f d d2 with
  | ok z =>
    rw [q] at f2
    exact hd v v2 d d2 M2 H2 Q z rs2.ms rs2.nt (r1.mono e2.mm) r2 q f2
  | exc c => exact absurd q (hx d d2 c)
  | bad =>
    rw [q] at f2
    exact f2.elim
theorem e_op {op : Operator} {r : R2} {f : D → D → Out D} {a b : Expr} {ma mb : Env → Out D} {pos : Pos} (ho : OpR X (binaryOp op) r) (hd : OpD X.K X.mg T r f) (hx : noX f) (ha : PEm X T E a ma) (hb : PEm X T E b mb) : PEm X T E (.BinOp a op b pos) (m2 f ma mb) :=
  weakE (pe_op ho ha hb) fun _ _ _ h => tOp_of hd hx h
theorem e_cmp {op : CmpOp} {r : R2} {f : D → D → Out D} {a b : Expr} {ma mb : Env → Out D} {pos : Pos} (ho : OpR X (compareOp op) r) (hd : OpD X.K X.mg T r f) (hx : noX f) (ha : PEm X T E a ma) (hb : PEm X T E b mb) (hm : behindInMarks op b = false) : PEm X T E (.Compare a [op] [b] pos) (m2 f ma mb) :=
  weakE (pe_cmpR ho ha hb hm) fun _ _ _ h => tOp_of hd hx h
/-- a truth -/
def toB : D → Out Bool
  | .bl b => .ok b
  | _ => .bad
def mT (a : Env → Out D) : Env → Out Bool := fun Γ => (a Γ).bind toB
theorem tB_of {a : Env → Out D} {σ : L2.St} {H : Hp} {Q : Bool → Hp → Prop} (h : ttOf K mg T E (mT a) σ H Q) : tOf K mg T E a σ H (fun x H' => ∃ k, x = .bl k ∧ Q k H') := by
  obtain ⟨Γ, M, H0, rs, fn⟩ := h
  refine ⟨Γ, M, H0, rs, ?_⟩
  unfold mT at fn
  cases q : a Γ with
  | ok d =>
    rw [q] at fn
    cases d with
    | bl b =>
      intro v H' M' e r
      cases r
      exact ⟨b, rfl, fn H' M' e⟩
    | _ => exact fn.elim
  | exc c =>
    rw [q] at fn
    exact fn
  | bad =>
    rw [q] at fn
    exact fn.elim
theorem t_cmp {op : CmpOp} {r : R2} {f : D → D → Out D} {a b : Expr} {ma mb : Env → Out D} {pos : Pos} (ho : OpR X (compareOp op) r) (hd : OpD X.K X.mg T r f) (hx : noX f) (ha : PEm X T E a ma) (hb : PEm X T E b mb) (hm : behindInMarks op b = false) : PTm X T E (.Compare a [op] [b] pos) (mT (m2 f ma mb)) :=
  weakT (pt_cmpR ho ha hb hm) fun _ _ _ h => tOp_of hd hx (tB_of h)
theorem t_val {e : Expr} {m : Env → Out D} (h : PEm X T E e m) (he : ∀ whole, isTrue e X.env whole = (do let v ← whole; standAt e.pos; holding [v] (truthy v)) := by intro _; rfl) : PTm X T E e (mT m) :=
  weakT (pt_val h he) fun _ _ _ h => tB_of h

/-! ### and, or, not, if -/
def mAnd (a b : Env → Out D) : Env → Out D := fun Γ => (a Γ).bind fun x => match x with
  | .bl true => b Γ
  | .bl false => .ok (.bl false)
  | _ => .bad
def mOr (a b : Env → Out D) : Env → Out D := fun Γ => (a Γ).bind fun x => match x with
  | .bl true => .ok (.bl true)
  | .bl false => b Γ
  | _ => .bad
def dNot : D → Out D
  | .bl b => .ok (.bl (!b))
  | _ => .bad
def tAndM (a b : Env → Out Bool) : Env → Out Bool := fun Γ => (a Γ).bind fun x => if x = true then b Γ else .ok false
def tOrM (a b : Env → Out Bool) : Env → Out Bool := fun Γ => (a Γ).bind fun x => if x = true then .ok true else b Γ
def tNotM (a : Env → Out Bool) : Env → Out Bool := fun Γ => (a Γ).bind fun x => .ok (!x)
def mIf (c : Env → Out Bool) (a b : Env → Out D) : Env → Out D := fun Γ => (c Γ).bind fun x => if x = true then a Γ else b Γ
theorem FinT.bindT {Q Q' : Bool → Hp → Prop} {E : XK} {o : Out Bool} {f : Bool → Out Bool} (h : FinT mg T M H Q E (o.bind f))
    (k : ∀ d H1 M1, o = .ok d → Ext T M H M1 H1 → FinT mg T M1 H1 Q E (f d) → Q' d H1) : FinT mg T M H Q' E o := by
  cases o with
  | ok d => exact fun H1 M1 e => k d H1 M1 rfl e (FinT.up h e)
  | exc c => exact h
  | bad => exact h
theorem FinT.bindE {Q : VK} {Q' : Bool → Hp → Prop} {E : XK} {o : Out Bool} {f : Bool → Out D} (h : Fin K mg T M H Q E (o.bind f))
    (k : ∀ d H1 M1, o = .ok d → Ext T M H M1 H1 → Fin K mg T M1 H1 Q E (f d) → Q' d H1) : FinT mg T M H Q' E o := by
  cases o with
  | ok d => exact fun H1 M1 e => k d H1 M1 rfl e (Fin.up h e)
  | exc c => exact h
  | bad => exact h
theorem FinA.bindE {Q : VK} {Q' : List V → Hp → Prop} {E : XK} {o : Out (List D)} {f : List D → Out D} (h : Fin K mg T M H Q E (o.bind f))
    (k : ∀ d v H1 M1, o = .ok d → Ext T M H M1 H1 → RpL K mg M1 v d → Fin K mg T M1 H1 Q E (f d) → Q' v H1) : FinA K mg T M H Q' E o := by
  cases o with
  | ok d => exact fun v H1 M1 e r => k d v H1 M1 rfl e r (Fin.up h e)
  | exc c => exact h
  | bad => exact h
theorem Fin.bindA {Q : List V → Hp → Prop} {Q' : VK} {E : XK} {o : Out D} {f : D → Out (List D)} (h : FinA K mg T M H Q E (o.bind f))
    (k : ∀ d v H1 M1, o = .ok d → Ext T M H M1 H1 → Rp K mg M1 v d → FinA K mg T M1 H1 Q E (f d) → Q' v H1) : Fin K mg T M H Q' E o := by
  cases o with
  | ok d => exact fun v H1 M1 e r => k d v H1 M1 rfl e r (FinA.up h e)
  | exc c => exact h
  | bad => exact h
theorem FinA.bindA {Q Q' : List V → Hp → Prop} {E : XK} {o : Out (List D)} {f : List D → Out (List D)} (h : FinA K mg T M H Q E (o.bind f))
    (k : ∀ d v H1 M1, o = .ok d → Ext T M H M1 H1 → RpL K mg M1 v d → FinA K mg T M1 H1 Q E (f d) → Q' v H1) : FinA K mg T M H Q' E o := by
  cases o with
  | ok d => exact fun v H1 M1 e r => k d v H1 M1 rfl e r (FinA.up h e)
  | exc c => exact h
  | bad => exact h
section
variable {a b c : Expr} {rest : List Expr} {pos : Pos} {ma mb : Env → Out D} {ta tb tc : Env → Out Bool}
theorem e_one {op} (h : PEm X T E a ma) : PEm X T E (.BoolOp op [a] pos) ma := pe_one h
theorem e_and (ha : PEm X T E a ma) (hb : PEm X T E (.BoolOp .And (b :: rest) pos) mb) : PEm X T E (.BoolOp .And (a :: b :: rest) pos) (mAnd ma mb) := by
  refine weakE (pe_and ha hb) fun σ H Q h => ?_
  obtain ⟨Γ, M, H0, rs, fn⟩ := h
  refine ⟨Γ, M, H0, rs, Fin.bind fn fun d v H1 M1 _ e1 r1 f1 => ?_⟩
  cases r1 with
  | bl b =>
    refine ⟨b, rfl, ?_⟩
    cases b with
    | true => exact ⟨Γ, M1, H0, rs.ext e1, f1⟩
    | false => exact f1 _ _ _ (rs.ext e1).ext0 (.bl false)
  | _ => exact f1.elim
theorem e_or (ha : PEm X T E a ma) (hb : PEm X T E (.BoolOp .Or (b :: rest) pos) mb) : PEm X T E (.BoolOp .Or (a :: b :: rest) pos) (mOr ma mb) := by
  refine weakE (pe_or ha hb) fun σ H Q h => ?_
  obtain ⟨Γ, M, H0, rs, fn⟩ := h
  refine ⟨Γ, M, H0, rs, Fin.bind fn fun d v H1 M1 _ e1 r1 f1 => ?_⟩
  cases r1 with
  | bl b =>
    refine ⟨b, rfl, ?_⟩
    cases b with
    | false => exact ⟨Γ, M1, H0, rs.ext e1, f1⟩
    | true => exact f1 _ _ _ (rs.ext e1).ext0 (.bl true)
  | _ => exact f1.elim
theorem e_not (ha : PEm X T E a ma) : PEm X T E (.UnaryOp .Not a pos) (m1 dNot ma) := by
  refine weakE (pe_not ha) fun σ H Q h => ?_
  obtain ⟨Γ, M, H0, rs, fn⟩ := h
  refine ⟨Γ, M, H0, rs, Fin.bind fn fun d v H1 M1 _ e1 r1 f1 => ?_⟩
  cases r1 with
  | bl b => exact ⟨b, rfl, f1 _ _ _ (rs.ext e1).ext0 (.bl _)⟩
  | _ => exact f1.elim
theorem w_and1 (ha : PTm X T E a ta) : PWm X T E (.BoolOp .And [a] pos) ta := pw_and1 ha
theorem w_or1 (ha : PTm X T E a ta) : PWm X T E (.BoolOp .Or [a] pos) ta := pw_or1 ha
theorem w_and (ha : PTm X T E a ta) (hb : PWm X T E (.BoolOp .And (b :: rest) pos) tb) : PWm X T E (.BoolOp .And (a :: b :: rest) pos) (tAndM ta tb) := by
  refine weakW (pw_and ha hb) fun σ H Q h => ?_
  obtain ⟨Γ, M, H0, rs, fn⟩ := h
  refine ⟨Γ, M, H0, rs, FinT.bindT fn fun d H1 M1 _ e1 f1 => ?_⟩
  cases d with
  | true => exact ⟨Γ, M1, H0, rs.ext e1, f1⟩
  | false => exact f1 _ _ (rs.ext e1).ext0
theorem w_or (ha : PTm X T E a ta) (hb : PWm X T E (.BoolOp .Or (b :: rest) pos) tb) : PWm X T E (.BoolOp .Or (a :: b :: rest) pos) (tOrM ta tb) := by
  refine weakW (pw_or ha hb) fun σ H Q h => ?_
  obtain ⟨Γ, M, H0, rs, fn⟩ := h
  refine ⟨Γ, M, H0, rs, FinT.bindT fn fun d H1 M1 _ e1 f1 => ?_⟩
  cases d with
  | false => exact ⟨Γ, M1, H0, rs.ext e1, f1⟩
  | true => exact f1 _ _ (rs.ext e1).ext0
theorem t_w (h : PWm X T E a ta) : PTm X T E a ta := h.pt
theorem t_not (ha : PTm X T E a ta) : PTm X T E (.UnaryOp .Not a pos) (tNotM ta) := by
  refine weakT (pt_not ha) fun σ H Q h => ?_
  obtain ⟨Γ, M, H0, rs, fn⟩ := h
  exact ⟨Γ, M, H0, rs, FinT.bindT fn fun d H1 M1 _ e1 f1 => f1 _ _ (rs.ext e1).ext0⟩
theorem e_if (hc : PTm X T E c tc) (ha : PEm X T E a ma) (hb : PEm X T E b mb) : PEm X T E (.IfExp c a b pos) (mIf tc ma mb) := by
  refine weakE (pe_ifExp hc ha hb) fun σ H Q h => ?_
  obtain ⟨Γ, M, H0, rs, fn⟩ := h
  refine ⟨Γ, M, H0, rs, FinT.bindE fn fun d H1 M1 _ e1 f1 => ?_⟩
  cases d with
  | true => exact ⟨Γ, M1, H0, rs.ext e1, f1⟩
  | false => exact ⟨Γ, M1, H0, rs.ext e1, f1⟩
end

/-! ### arguments, lists, tuples, built-ins -/
theorem a_nil : PAm X T E [] mNil := by
  refine weakA pa_nil fun σ H Q h => ?_
  obtain ⟨Γ, M, H0, rs, fn⟩ := h
  exact fn [] H M rs.ext0 .nil
theorem a_cons {e : Expr} {es : List Expr} {m : Env → Out D} {ms : Env → Out (List D)} (ha : PEm X T E e m) (hr : PAm X T E es ms) (hs : starEach (e :: es) X.env = (false, eval e X.env) :: starEach es X.env := by rfl) : PAm X T E (e :: es) (mCons m ms) := by
  refine weakA (pa_cons ha hr hs) fun σ H Q h => ?_
  obtain ⟨Γ, M, H0, rs, fn⟩ := h
  refine ⟨Γ, M, H0, rs, Fin.bindA fn fun d v H1 M1 _ e1 r1 f1 => ?_⟩
  exact ⟨Γ, M1, H0, rs.ext e1, FinA.bindA f1 fun d2 v2 H2 M2 _ e2 r2 f2 => f2 _ _ _ ((rs.ext e1).ext e2).ext0 (.cons (r1.mono e2.mm) r2)⟩
def LIM : Nat := 16777216
def dTup (xs : List D) : Out D := if xs.length ≤ LIM then .ok (.tup xs) else .bad
def dLst (xs : List D) : Out D := if xs.length ≤ LIM then .ok (.lst xs) else .bad
theorem lim_line {n : Nat} (h : n ≤ LIM) : n ≤ sizeLine := by
  rw [sizeLine_eq]
  exact h
theorem e_tup {es : List Expr} {x1} {pos : Pos} {ms : Env → Out (List D)} (h : PAm X T E es ms) : PEm X T E (.Tuple es x1 pos) (mN dTup ms) := by
  refine weakE (pe_tup h) fun σ H Q h => ?_
  obtain ⟨Γ, M, H0, rs, fn⟩ := h
  refine ⟨Γ, M, H0, rs, FinA.bindE fn fun d v H1 M1 _ e1 r1 f1 => ?_⟩
  unfold dTup at f1
  have rs1 := rs.ext e1
  by_cases hl : d.length ≤ LIM
  · rw [if_pos hl] at f1
    refine ⟨by rw [r1.length]; exact lim_line hl, fun p hp => f1 _ _ _ (Ext.new rs1.ms rs1.nt hp (fun ps z => by cases z)) (.tup (SqT.of upd_same) (r1.mono ?_))⟩
    exact (Ext.new (T := T) rs1.ms rs1.nt hp (o := .tup v) (fun ps z => by cases z)).mm
  · rw [if_neg hl] at f1
    exact f1.elim
theorem e_lst {es : List Expr} {pos : Pos} {ms : Env → Out (List D)} (h : PAm X T E es ms) : PEm X T E (.List es pos) (mN dLst ms) := by
  refine weakE (pe_lst h) fun σ H Q h => ?_
  obtain ⟨Γ, M, H0, rs, fn⟩ := h
  refine ⟨Γ, M, H0, rs, FinA.bindE fn fun d v H1 M1 _ e1 r1 f1 => ?_⟩
  unfold dLst at f1
  have rs1 := rs.ext e1
  by_cases hl : d.length ≤ LIM
  · rw [if_pos hl] at f1
    refine ⟨by rw [r1.length]; exact lim_line hl, fun p hp => f1 _ _ _ (Ext.new rs1.ms rs1.nt hp (fun ps z => by cases z)) (.lst upd_same (r1.mono ?_))⟩
    exact (Ext.new (T := T) rs1.ms rs1.nt hp (o := .lst v) (fun ps z => by cases z)).mm
  · rw [if_neg hl] at f1
    exact f1.elim
/-- a built-in's rule and its data -/
def CallD (K : PySem.W.Frag) (mg : Str → Option Value) (T : List (Addr × Str)) (r : List V → Hp → VK → Prop) (f : List D → Out D) : Prop :=
  ∀ xs ds M H Q d, Same M H → (∀ a ps, M a ≠ some (.tbl ps)) → RpL K mg M xs ds → f ds = .ok d → (∀ v H' M', Ext T M H M' H' → Rp K mg M' v d → Q v H') → r xs H Q
def noXN (f : List D → Out D) : Prop := ∀ x c, f x ≠ .exc c
theorem tCB_of {r : List V → Hp → VK → Prop} {f : List D → Out D} {ms : Env → Out (List D)} (hd : CallD K mg T r f) (hx : noXN f) {σ : L2.St} {H : Hp} {Q : VK} (h : tOf K mg T E (mN f ms) σ H Q) : tCB r (taOf K mg T E ms) σ H Q := by
  obtain ⟨Γ, M, H0, rs, fn⟩ := h
  refine ⟨Γ, M, H0, rs, FinA.bindE fn fun d v H1 M1 _ e1 r1 f1 => ?_⟩
  have rs1 := rs.ext e1
  cases q : f d with
  | ok z =>
    rw [q] at f1
    exact hd v d M1 H1 Q z rs1.ms rs1.nt r1 q f1
  | exc c => exact absurd q (hx d c)
  | bad =>
    rw [q] at f1
    exact f1.elim
theorem e_callB {id : String} {x : Str} {p pos : Pos} {e : Expr} {es : List Expr} {r : List V → Hp → VK → Prop} {f : List D → Out D} {ms : Env → Out (List D)} (hc : CallR X (.builtin id) r) (hd : CallD X.K X.mg T r f) (hx : noXN f) (hg : Gl X x) (hm : X.mg x = none) (hv : bootBuiltins x = some (.builtin id)) (ha : PAm X T E (e :: es) ms)
    (hn : x ≠ "__name__" := by decide) (hdb : (x == ("__debug__" : Str)) = false := by decide) (he : starEach (e :: es) X.env = (false, eval e X.env) :: starEach es X.env := by rfl) (hpl : (backTo pos (starEach es X.env)).any (·.1) = false := by rfl) :
    PEm X T E (.Call (.Name x p) (e :: es) [] pos) (mN f ms) := weakE (pe_callB hc hg hm hv ha hn hdb he hpl) fun _ _ _ h => tCB_of hd hx h
theorem e_callTy {id : String} {x : Str} {p pos : Pos} {e : Expr} {es : List Expr} {r : List V → Hp → VK → Prop} {f : List D → Out D} {ms : Env → Out (List D)} (hc : CallR X (.type id) r) (hd : CallD X.K X.mg T r f) (hx : noXN f) (hg : Gl X x) (hm : X.mg x = none) (hv : bootBuiltins x = some (.type id)) (ha : PAm X T E (e :: es) ms)
    (hn : x ≠ "__name__" := by decide) (hdb : (x == ("__debug__" : Str)) = false := by decide) (he : starEach (e :: es) X.env = (false, eval e X.env) :: starEach es X.env := by rfl) (hpl : (backTo pos (starEach es X.env)).any (·.1) = false := by rfl) :
    PEm X T E (.Call (.Name x p) (e :: es) [] pos) (mN f ms) := weakE (pe_callTy hc hg hm hv ha hn hdb he hpl) fun _ _ _ h => tCB_of hd hx h
end
end FL
set_option Elab.async false
set_option linter.all false
set_option maxRecDepth 100000
set_option maxHeartbeats 2000000
namespace FL
open PySem PySem.Spec PyProof.Rows L2 LamX
variable {K : PySem.W.Frag} {mg : Str → Option Value} {T : List (Addr × Str)} {H0 M0 M M' M1 M2 H H' H1 H2 : Hp} {Γ Γ' : Env} {σ σ' : L2.St} {E : XK} {X : Cx}

/-! ### slots -/
theorem Rs.set (r : Rs K mg T H0 M H Γ σ) (i : Nat) {v : V} {d : D} (h : Rp K mg M v d) : Rs K mg T H0 M H (Γ.set i (some (.dat d))) (σ.set i (some v)) where
  ms := r.ms
  nt := r.nt
  tb := r.tb
  len := by rw [List.length_set, List.length_set, r.len]
  dat := fun j e q => by
    by_cases hj : i = j
    · subst hj
      by_cases hi : i < Γ.length
      · rw [List.getElem?_set_self hi] at q
        cases q
        exact ⟨v, List.getElem?_set_self (by rw [← r.len]; exact hi), h⟩
      · rw [List.getElem?_eq_none (by rw [List.length_set]; omega)] at q
        cases q
    · rw [List.getElem?_set_ne hj] at q ⊢
      exact r.dat j e q
  own := fun j e q => by
    by_cases hj : i = j
    · subst hj
      by_cases hi : i < Γ.length
      · rw [List.getElem?_set_self hi] at q
        cases q
      · rw [List.getElem?_eq_none (by rw [List.length_set]; omega)] at q
        cases q
    · rw [List.getElem?_set_ne hj] at q ⊢
      exact r.own j e q
  inj := fun j k ds es a q1 q2 q3 q4 => by
    have nj : ∀ (j : Nat) ds, (Γ.set i (some (.dat d)))[j]? = some (some (.own ds)) → i ≠ j := fun j ds q z => by
      subst z
      by_cases hi : i < Γ.length
      · rw [List.getElem?_set_self hi] at q
        cases q
      · rw [List.getElem?_eq_none (by rw [List.length_set]; omega)] at q
        cases q
    have h1 := nj j ds q1
    have h2 := nj k es q2
    rw [List.getElem?_set_ne h1] at q1 q3
    rw [List.getElem?_set_ne h2] at q2 q4
    exact r.inj j k ds es a q1 q2 q3 q4
  dct := fun j ks q => by
    rcases set_get q with ⟨_, _, z⟩ | ⟨hj, q⟩
    · cases z
    · rw [List.getElem?_set_ne hj]
      exact r.dct j ks q
  djn := fun j k ks ls a q1 q2 q3 q4 => by
    rcases set_get q1 with ⟨_, _, z⟩ | ⟨hj, q1⟩
    · cases z
    rcases set_get q2 with ⟨_, _, z⟩ | ⟨hk, q2⟩
    · cases z
    rw [List.getElem?_set_ne hj] at q3
    rw [List.getElem?_set_ne hk] at q4
    exact r.djn j k ks ls a q1 q2 q3 q4
def wipeE (Γ : Env) : List Nat → Env
  | [] => Γ
  | v :: vs => (wipeE Γ vs).set v none
theorem Rs.wipe1 (r : Rs K mg T H0 M H Γ σ) (i : Nat) : Rs K mg T H0 M H (Γ.set i none) (σ.set i none) where
  ms := r.ms
  nt := r.nt
  tb := r.tb
  len := by rw [List.length_set, List.length_set, r.len]
  dat := fun j e q => by
    by_cases hj : i = j
    · subst hj
      by_cases hi : i < Γ.length
      · rw [List.getElem?_set_self hi] at q
        cases q
      · rw [List.getElem?_eq_none (by rw [List.length_set]; omega)] at q
        cases q
    · rw [List.getElem?_set_ne hj] at q ⊢
      exact r.dat j e q
  own := fun j e q => by
    by_cases hj : i = j
    · subst hj
      by_cases hi : i < Γ.length
      · rw [List.getElem?_set_self hi] at q
        cases q
      · rw [List.getElem?_eq_none (by rw [List.length_set]; omega)] at q
        cases q
    · rw [List.getElem?_set_ne hj] at q ⊢
      exact r.own j e q
  inj := fun j k ds es a q1 q2 q3 q4 => by
    have nj : ∀ (j : Nat) ds, (Γ.set i none)[j]? = some (some (.own ds)) → i ≠ j := fun j ds q z => by
      subst z
      by_cases hi : i < Γ.length
      · rw [List.getElem?_set_self hi] at q
        cases q
      · rw [List.getElem?_eq_none (by rw [List.length_set]; omega)] at q
        cases q
    have h1 := nj j ds q1
    have h2 := nj k es q2
    rw [List.getElem?_set_ne h1] at q1 q3
    rw [List.getElem?_set_ne h2] at q2 q4
    exact r.inj j k ds es a q1 q2 q3 q4
  dct := fun j ks q => by
    rcases set_get q with ⟨_, _, z⟩ | ⟨hj, q⟩
    · cases z
    · rw [List.getElem?_set_ne hj]
      exact r.dct j ks q
  djn := fun j k ks ls a q1 q2 q3 q4 => by
    rcases set_get q1 with ⟨_, _, z⟩ | ⟨hj, q1⟩
    · cases z
    rcases set_get q2 with ⟨_, _, z⟩ | ⟨hk, q2⟩
    · cases z
    rw [List.getElem?_set_ne hj] at q3
    rw [List.getElem?_set_ne hk] at q4
    exact r.djn j k ks ls a q1 q2 q3 q4
theorem Rs.wipe (r : Rs K mg T H0 M H Γ σ) : ∀ vs : List Nat, Rs K mg T H0 M H (wipeE Γ vs) (L2.wipe σ vs)
  | [] => r
  | v :: vs => (Rs.wipe r vs).wipe1 v
/-- the own list in slot i, changed to ws -/
theorem tabs_upd {a : Addr} {vs ws : List V} (h : Tabs T H) (ha : H a = some (.lst vs)) : Tabs T (upd H a (.lst ws)) := fun p hp => by
  obtain ⟨ps, h1, h2, h3⟩ := h p hp
  refine ⟨ps, ?_, h2, fun pos cv hc => ?_⟩
  · rw [upd_ne (ne_of h1 ha (fun z => by cases z))]
    exact h1
  · obtain ⟨c, e, hc⟩ := h3 pos cv hc
    refine ⟨c, e, ?_⟩
    rw [upd_ne (ne_of hc ha (fun z => by unfold CodeO at z; cases z))]
    exact hc
theorem Ext.mut {a : Addr} {vs ws : List V} (e : Ext T M0 H0 M H) (hm : M a = none) (ha : H a = some (.lst vs)) (hf : Fr H0 a) : Ext T M0 H0 M (upd H a (.lst ws)) where
  kp := fun b o hb ho => by
    by_cases q : b = a
    · subst q
      obtain ⟨ps, z⟩ := hf o hb
      exact absurd z (ho ps)
    · rw [upd_ne q]
      exact e.kp b o hb ho
  tb := fun h => tabs_upd (e.tb h) ha
  mm := e.mm
  ms := fun b o hb => by
    have q : b ≠ a := fun z => by
      rw [z, hm] at hb
      cases hb
    rw [upd_ne q]
    exact e.ms b o hb
  nt := e.nt
  nw := e.nw
theorem Rs.mut (r : Rs K mg T H0 M H Γ σ) {i : Nat} {a : Addr} {ds es : List D} {vs ws : List V} (hi : Γ[i]? = some (some (.own ds))) (hs : σ[i]? = some (some (.ref a))) (ha : H a = some (.lst vs)) (hm : M a = none) (hf : Fr H0 a) (hw : RpL K mg M ws es) :
    Rs K mg T H0 M (upd H a (.lst ws)) (Γ.set i (some (.own es))) σ where
  ms := fun b o hb => by
    have q : b ≠ a := fun z => by
      rw [z, hm] at hb
      cases hb
    rw [upd_ne q]
    exact r.ms b o hb
  nt := r.nt
  tb := tabs_upd r.tb ha
  len := by rw [List.length_set, r.len]
  dat := fun j e q => by
    by_cases hj : i = j
    · subst hj
      have hl : i < Γ.length := by
        by_cases h : i < Γ.length
        · exact h
        · rw [List.getElem?_eq_none (by omega)] at hi
          cases hi
      rw [List.getElem?_set_self hl] at q
      cases q
    · rw [List.getElem?_set_ne hj] at q
      exact r.dat j e q
  own := fun j e q => by
    by_cases hj : i = j
    · subst hj
      have hl : i < Γ.length := by
        by_cases h : i < Γ.length
        · exact h
        · rw [List.getElem?_eq_none (by omega)] at hi
          cases hi
      rw [List.getElem?_set_self hl] at q
      cases q
      exact ⟨a, ws, hs, upd_same, hm, hf, hw⟩
    · rw [List.getElem?_set_ne hj] at q
      obtain ⟨b, us, q1, q2, q3, q4, q5⟩ := r.own j e q
      refine ⟨b, us, q1, ?_, q3, q4, q5⟩
      rw [upd_ne (fun z => ?_)]
      · exact q2
      · subst z
        exact hj (r.inj i j ds e _ hi q hs q1)
  inj := fun j k ds' es' b q1 q2 q3 q4 => by
    have ow : ∀ (j : Nat) ds', (Γ.set i (some (.own es)))[j]? = some (some (.own ds')) → ∃ ds'', Γ[j]? = some (some (.own ds'')) := fun j ds' q => by
      by_cases hj : i = j
      · subst hj
        exact ⟨ds, hi⟩
      · rw [List.getElem?_set_ne hj] at q
        exact ⟨ds', q⟩
    obtain ⟨d1, e1⟩ := ow j ds' q1
    obtain ⟨d2, e2⟩ := ow k es' q2
    exact r.inj j k d1 d2 b e1 e2 q3 q4
  dct := fun j ks q => by
    rcases set_get q with ⟨_, _, z⟩ | ⟨hj, q⟩
    · cases z
    · obtain ⟨b, us, q1, q2, q3, q4, q5⟩ := r.dct j ks q
      refine ⟨b, us, q1, ?_, q3, q4, q5⟩
      rw [upd_ne (ne_of q2 ha (fun z => by cases z))]
      exact q2
  djn := fun j k ks ls b q1 q2 q3 q4 => by
    rcases set_get q1 with ⟨_, _, z⟩ | ⟨hj, q1⟩
    · cases z
    rcases set_get q2 with ⟨_, _, z⟩ | ⟨hk, q2⟩
    · cases z
    exact r.djn j k ks ls b q1 q2 q3 q4
/-- a new list of its own for slot i -/
theorem Rs.newOwn (r : Rs K mg T H0 M H Γ σ) (e : Ext T M0 H0 M H) (i : Nat) {p : Addr} {vs : List V} {ds : List D} (hp : H p = none) (h : RpL K mg M vs ds) :
    Ext T M0 H0 M (upd H p (.lst vs)) ∧ Rs K mg T H0 M (upd H p (.lst vs)) (Γ.set i (some (.own ds))) (σ.set i (some (.ref p))) := by
  have g : Ext T M H M (upd H p (.lst vs)) := Ext.grow r.ms r.nt (same_upd hp)
  have fr : Fr H0 p := fun u hu => by
    by_cases ht : ∃ ps, u = .tbl ps
    · exact ht
    · have z := e.kp p u hu (fun ps z => ht ⟨ps, z⟩)
      rw [hp] at z
      cases z
  have mp : M p = none := by
    cases q : M p with
    | none => rfl
    | some u =>
      have z := r.ms p u q
      rw [hp] at z
      cases z
  have r2 := r.ext g
  refine ⟨e.trans g, ⟨r2.ms, r2.nt, r2.tb, by rw [List.length_set, List.length_set, r.len], fun j d q => ?_, fun j es q => ?_, fun j k ds' es' b q1 q2 q3 q4 => ?_, fun j ks q => ?_, fun j k ks ls b q1 q2 q3 q4 => ?_⟩⟩
  · by_cases hj : i = j
    · subst hj
      by_cases hi : i < Γ.length
      · rw [List.getElem?_set_self hi] at q
        cases q
      · rw [List.getElem?_eq_none (by rw [List.length_set]; omega)] at q
        cases q
    · rw [List.getElem?_set_ne hj] at q ⊢
      exact r2.dat j d q
  · by_cases hj : i = j
    · subst hj
      by_cases hi : i < Γ.length
      · rw [List.getElem?_set_self hi] at q
        cases q
        exact ⟨p, vs, List.getElem?_set_self (by rw [← r.len]; exact hi), upd_same, mp, fr, h⟩
      · rw [List.getElem?_eq_none (by rw [List.length_set]; omega)] at q
        cases q
    · rw [List.getElem?_set_ne hj] at q ⊢
      exact r2.own j es q
  · have lt : ∀ (j : Nat) ds', (Γ.set i (some (.own ds)))[j]? = some (some (.own ds')) → (i = j ∧ i < Γ.length) ∨ (i ≠ j ∧ Γ[j]? = some (some (.own ds'))) := fun j ds' q => by
      by_cases hj : i = j
      · subst hj
        by_cases hi : i < Γ.length
        · exact .inl ⟨rfl, hi⟩
        · rw [List.getElem?_eq_none (by rw [List.length_set]; omega)] at q
          cases q
      · rw [List.getElem?_set_ne hj] at q
        exact .inr ⟨hj, q⟩
    have np : ∀ (j : Nat) ds', Γ[j]? = some (some (.own ds')) → σ[j]? = some (some (.ref p)) → False := fun j ds' q z => by
      obtain ⟨a, us, h1, h2, _⟩ := r.own j ds' q
      rw [z] at h1
      cases h1
      rw [hp] at h2
      cases h2
    rcases lt j ds' q1 with ⟨a1, a2⟩ | ⟨a1, a2⟩
    · subst a1
      rw [List.getElem?_set_self (by rw [← r.len]; exact a2)] at q3
      cases q3
      rcases lt k es' q2 with ⟨b1, b2⟩ | ⟨b1, b2⟩
      · exact b1
      · rw [List.getElem?_set_ne b1] at q4
        exact (np k es' b2 q4).elim
    · rw [List.getElem?_set_ne a1] at q3
      rcases lt k es' q2 with ⟨b1, b2⟩ | ⟨b1, b2⟩
      · subst b1
        rw [List.getElem?_set_self (by rw [← r.len]; exact b2)] at q4
        cases q4
        exact (np j ds' a2 q3).elim
      · rw [List.getElem?_set_ne b1] at q4
        exact r.inj j k ds' es' b a2 b2 q3 q4
  · rcases set_get q with ⟨_, _, z⟩ | ⟨hj, q⟩
    · cases z
    · rw [List.getElem?_set_ne hj]
      exact r2.dct j ks q
  · rcases set_get q1 with ⟨_, _, z⟩ | ⟨hj, q1⟩
    · cases z
    rcases set_get q2 with ⟨_, _, z⟩ | ⟨hk, q2⟩
    · cases z
    rw [List.getElem?_set_ne hj] at q3
    rw [List.getElem?_set_ne hk] at q4
    exact r.djn j k ks ls b q1 q2 q3 q4
/-- the own list of slot i is shared from now on -/
theorem Rs.freeze (r : Rs K mg T H0 M H Γ σ) (e : Ext T M0 H0 M H) {i : Nat} {ds : List D} (hi : Γ[i]? = some (some (.own ds))) :
    ∃ M', Ext T M0 H0 M' H ∧ Rs K mg T H0 M' H (Γ.set i (some (.dat (.lst ds)))) σ := by
  obtain ⟨a, vs, h1, h2, h3, h4, h5⟩ := r.own i ds hi
  have mm : Same M (upd M a (.lst vs)) := same_upd h3
  have ms : Same (upd M a (.lst vs)) H := fun b o hb => by
    by_cases q : b = a
    · subst q
      rw [upd_same] at hb
      rw [← hb]
      exact h2
    · rw [upd_ne q] at hb
      exact r.ms b o hb
  have nt : ∀ b ps, upd M a (.lst vs) b ≠ some (.tbl ps) := fun b ps hb => by
    by_cases q : b = a
    · subst q
      rw [upd_same] at hb
      cases hb
    · rw [upd_ne q] at hb
      exact r.nt b ps hb
  have hl : i < Γ.length := by
    by_cases h : i < Γ.length
    · exact h
    · rw [List.getElem?_eq_none (by omega)] at hi
      cases hi
  refine ⟨upd M a (.lst vs), ⟨e.kp, e.tb, e.mm.trans mm, ms, nt, fun b o hb => ?_⟩, ⟨ms, nt, r.tb, by rw [List.length_set, r.len], fun j d q => ?_, fun j es q => ?_, fun j k ds' es' b q1 q2 q3 q4 => ?_, fun j ks q => ?_, fun j k ks ls b q1 q2 q3 q4 => ?_⟩⟩
  · by_cases q : b = a
    · subst q
      exact .inr h4
    · rw [upd_ne q] at hb
      exact e.nw b o hb
  · by_cases hj : i = j
    · subst hj
      rw [List.getElem?_set_self hl] at q
      cases q
      exact ⟨.ref a, h1, .lst upd_same (h5.mono mm)⟩
    · rw [List.getElem?_set_ne hj] at q
      obtain ⟨v, q1, q2⟩ := r.dat j d q
      exact ⟨v, q1, q2.mono mm⟩
  · by_cases hj : i = j
    · subst hj
      rw [List.getElem?_set_self hl] at q
      cases q
    · rw [List.getElem?_set_ne hj] at q
      obtain ⟨b, us, q1, q2, q3, q4, q5⟩ := r.own j es q
      refine ⟨b, us, q1, q2, ?_, q4, q5.mono mm⟩
      rw [upd_ne (fun z => ?_)]
      · exact q3
      · subst z
        exact hj (r.inj i j ds es _ hi q h1 q1)
  · have nj : ∀ (j : Nat) ds', (Γ.set i (some (.dat (.lst ds))))[j]? = some (some (.own ds')) → Γ[j]? = some (some (.own ds')) := fun j ds' q => by
      by_cases hj : i = j
      · subst hj
        rw [List.getElem?_set_self hl] at q
        cases q
      · rw [List.getElem?_set_ne hj] at q
        exact q
    exact r.inj j k ds' es' b (nj j ds' q1) (nj k es' q2) q3 q4
  · rcases set_get q with ⟨_, _, z⟩ | ⟨hj, q⟩
    · cases z
    · obtain ⟨b, us, q1, q2, q3, q4, q5⟩ := r.dct j ks q
      refine ⟨b, us, q1, q2, ?_, q4, q5.mono mm⟩
      rw [upd_ne (ne_of q2 h2 (fun z => by cases z))]
      exact q3
  · rcases set_get q1 with ⟨_, _, z⟩ | ⟨hj, q1⟩
    · cases z
    rcases set_get q2 with ⟨_, _, z⟩ | ⟨hk, q2⟩
    · cases z
    exact r.djn j k ks ls b q1 q2 q3 q4

/-! ### statements -/
inductive SO where
  | nx (Γ : Env) | rt (d : D) | bk (Γ : Env) | ct (Γ : Env) | exc (c : Str) | bad
def FinS (K : PySem.W.Frag) (mg : Str → Option Value) (T : List (Addr × Str)) (M0 H0 : Hp) (Dn : Ends) (E : XK) : SO → Prop
  | .nx Γ => ∀ σ H M, Ext T M0 H0 M H → Rs K mg T H0 M H Γ σ → Dn.nx σ H
  | .rt d => ∀ v H M, Ext T M0 H0 M H → Rp K mg M v d → Dn.rt v H
  | .bk Γ => ∀ σ H M, Ext T M0 H0 M H → Rs K mg T H0 M H Γ σ → Dn.bk σ H
  | .ct Γ => ∀ σ H M, Ext T M0 H0 M H → Rs K mg T H0 M H Γ σ → Dn.ct σ H
  | .exc c => ∀ C H M, Ext T M0 H0 M H → mg c = some (.ref C) → E (.ref C) none H
  | .bad => False
def sOf (K : PySem.W.Frag) (mg : Str → Option Value) (T : List (Addr × Str)) (E : XK) (m : Env → SO) : TS := fun Dn σ H => ∃ Γ M M0 H0, Ext T M0 H0 M H ∧ Rs K mg T H0 M H Γ σ ∧ FinS K mg T M0 H0 Dn E (m Γ)
abbrev PSm (X : Cx) (T : List (Addr × Str)) (E : XK) (st : Stmt) (m : Env → SO) : Prop := PS X st (sOf X.K X.mg T E m)
abbrev PSsm (X : Cx) (T : List (Addr × Str)) (E : XK) (st : List Stmt) (m : Env → SO) : Prop := PSs X st (sOf X.K X.mg T E m)
def SO.ofO (o : Out D) (f : D → SO) : SO := match o with
  | .ok d => f d
  | .exc c => .exc c
  | .bad => .bad
def SO.ofB (o : Out Bool) (f : Bool → SO) : SO := match o with
  | .ok d => f d
  | .exc c => .exc c
  | .bad => .bad
def sNext : Env → SO := .nx
def sSeq (a b : Env → SO) : Env → SO := fun Γ => match a Γ with
  | .nx Γ' => b Γ'
  | .rt d => .rt d
  | .bk Γ' => .bk Γ'
  | .ct Γ' => .ct Γ'
  | .exc c => .exc c
  | .bad => .bad
def sRet (m : Env → Out D) : Env → SO := fun Γ => SO.ofO (m Γ) .rt
def sDrop (m : Env → Out D) : Env → SO := fun Γ => SO.ofO (m Γ) fun _ => .nx Γ
def sIf (c : Env → Out Bool) (a b : Env → SO) : Env → SO := fun Γ => SO.ofB (c Γ) fun x => if x = true then a Γ else b Γ
def sSet (i : Nat) (m : Env → Out D) : Env → SO := fun Γ => SO.ofO (m Γ) fun d => .nx (Γ.set i (some (.dat d)))
/-- from an expression's reading on -/
theorem FinS.ofO {Dn : Ends} {Q' : VK} {o : Out D} {f : D → SO} (e0 : Ext T M0 H0 M H) (h : FinS K mg T M0 H0 Dn E (SO.ofO o f))
    (k : ∀ d v H1 M1, Ext T M0 H0 M1 H1 → Ext T M H M1 H1 → Rp K mg M1 v d → FinS K mg T M0 H0 Dn E (f d) → Q' v H1) : Fin K mg T M H Q' E o := by
  cases o with
  | ok d => exact fun v H1 M1 e r => k d v H1 M1 (e0.trans e) e r h
  | exc c => exact fun C H' M' e q => h C H' M' (e0.trans e) q
  | bad => exact h
theorem FinS.ofB {Dn : Ends} {Q' : Bool → Hp → Prop} {o : Out Bool} {f : Bool → SO} (e0 : Ext T M0 H0 M H) (h : FinS K mg T M0 H0 Dn E (SO.ofB o f))
    (k : ∀ d H1 M1, Ext T M0 H0 M1 H1 → Ext T M H M1 H1 → FinS K mg T M0 H0 Dn E (f d) → Q' d H1) : FinT mg T M H Q' E o := by
  cases o with
  | ok d => exact fun H1 M1 e => k d H1 M1 (e0.trans e) e h
  | exc c => exact fun C H' M' e q => h C H' M' (e0.trans e) q
  | bad => exact h
theorem ss_nil : PSsm X T E [] sNext := weakSs pss_nil fun Dn σ H h => by
  obtain ⟨Γ, M, M0, H0, e, r, f⟩ := h
  exact f σ H M e r
theorem s_pass {pos} : PSm X T E (.Pass pos) sNext := weakS ps_pass fun Dn σ H h => by
  obtain ⟨Γ, M, M0, H0, e, r, f⟩ := h
  exact f σ H M e r
theorem s_break {pos} : PSm X T E (.Break pos) .bk := weakS ps_break fun Dn σ H h => by
  obtain ⟨Γ, M, M0, H0, e, r, f⟩ := h
  exact f σ H M e r
theorem s_continue {pos} : PSm X T E (.Continue pos) .ct := weakS ps_continue fun Dn σ H h => by
  obtain ⟨Γ, M, M0, H0, e, r, f⟩ := h
  exact f σ H M e r
theorem ss_one {st : Stmt} {m : Env → SO} (h : PSm X T E st m) : PSsm X T E [st] m := pss_one h
theorem ss_cons {st : Stmt} {rest : List Stmt} {m n : Env → SO} (h1 : PSm X T E st m) (h2 : PSsm X T E rest n) : PSsm X T E (st :: rest) (sSeq m n) := weakSs (pss_cons h1 h2) fun Dn σ H h => by
  obtain ⟨Γ, M, M0, H0, e, r, f⟩ := h
  refine ⟨Γ, M, M0, H0, e, r, ?_⟩
  unfold sSeq at f
  cases q : m Γ with
  | nx Γ' =>
    rw [q] at f
    exact fun σ' H' M' e' r' => ⟨Γ', M', M0, H0, e', r', f⟩
  | rt d =>
    rw [q] at f
    exact f
  | bk Γ' =>
    rw [q] at f
    exact f
  | ct Γ' =>
    rw [q] at f
    exact f
  | exc c =>
    rw [q] at f
    exact f
  | bad =>
    rw [q] at f
    exact f
theorem s_ret {e : Expr} {m : Env → Out D} {pos} (h : PEm X T E e m) : PSm X T E (.Return (some e) pos) (sRet m) := weakS (ps_ret h) fun Dn σ H h => by
  obtain ⟨Γ, M, M0, H0, e, r, f⟩ := h
  exact ⟨Γ, M, H0, r, FinS.ofO e f fun d v H1 M1 e1 _ r1 f1 => f1 v H1 M1 e1 r1⟩
theorem s_expr {e : Expr} {m : Env → Out D} {pos : Pos} (h : PEm X T E e m) (hs : swapsWith e none pos.line X.env = pure false := by rfl) : PSm X T E (.Expr e pos) (sDrop m) := weakS (ps_expr h hs) fun Dn σ H h => by
  obtain ⟨Γ, M, M0, H0, e, r, f⟩ := h
  exact ⟨Γ, M, H0, r, FinS.ofO e f fun d v H1 M1 e1 e2 r1 f1 => f1 σ H1 M1 e1 (r.ext e2)⟩
theorem s_if {c : Expr} {a b : List Stmt} {tc : Env → Out Bool} {ma mb : Env → SO} {pos} (hc : PTm X T E c tc) (ha : PSsm X T E a ma) (hb : PSsm X T E b mb) : PSm X T E (.If c a b pos) (sIf tc ma mb) := weakS (ps_if hc ha hb) fun Dn σ H h => by
  obtain ⟨Γ, M, M0, H0, e, r, f⟩ := h
  refine ⟨Γ, M, H0, r, FinS.ofB e f fun d H1 M1 e1 e2 f1 => ?_⟩
  cases d with
  | true => exact ⟨Γ, M1, M0, H0, e1, r.ext e2, f1⟩
  | false => exact ⟨Γ, M1, M0, H0, e1, r.ext e2, f1⟩
theorem tAsg_of {i : Nat} {m : Env → Out D} {Dn : Ends} (h : sOf K mg T E (sSet i m) Dn σ H) : tAsg (tOf K mg T E m) (gName i) Dn σ H := by
  obtain ⟨Γ, M, M0, H0, e, r, f⟩ := h
  exact ⟨Γ, M, H0, r, FinS.ofO e f fun d v H1 M1 e1 e2 r1 f1 => f1 _ H1 M1 e1 ((r.ext e2).set i r1)⟩
theorem s_set {i : Nat} {x : Str} {e : Expr} {m : Env → Out D} {pos pos' : Pos} (hN : X.N.Nodup) (hi : X.N[i]? = some x) (hx : Loc X.env.scope x) (h : PEm X T E e m) (hs : swapsWith e (some (.Name x pos')) pos.line X.env = pure false := by rfl)
    (hf : X.fn x = true ∨ X.env.scope.names.lookup x = some .local := by first | exact .inl rfl | exact .inr rfl) : PSm X T E (.Assign [.Name x pos'] e pos) (sSet i m) :=
  weakS (ps_set hN hi hx h hs hf) fun Dn σ H h => tAsg_of h
end FL
set_option Elab.async false
set_option linter.all false
set_option maxRecDepth 100000
set_option maxHeartbeats 2000000
namespace FL
open PySem PySem.Spec PyProof.Rows L2 LamX
variable {K : PySem.W.Frag} {mg : Str → Option Value} {T : List (Addr × Str)} {H0 M0 M M' M1 M2 H H' H1 H2 : Hp} {Γ Γ' : Env} {σ σ' : L2.St} {E : XK} {X : Cx}

/-! ### lists of one's own -/
def SO.ofA (o : Out (List D)) (f : List D → SO) : SO := match o with
  | .ok d => f d
  | .exc c => .exc c
  | .bad => .bad
theorem FinS.ofA {Dn : Ends} {Q' : List V → Hp → Prop} {o : Out (List D)} {f : List D → SO} (e0 : Ext T M0 H0 M H) (h : FinS K mg T M0 H0 Dn E (SO.ofA o f))
    (k : ∀ d v H1 M1, Ext T M0 H0 M1 H1 → Ext T M H M1 H1 → RpL K mg M1 v d → FinS K mg T M0 H0 Dn E (f d) → Q' v H1) : FinA K mg T M H Q' E o := by
  cases o with
  | ok d => exact fun v H1 M1 e r => k d v H1 M1 (e0.trans e) e r h
  | exc c => exact fun C H' M' e q => h C H' M' (e0.trans e) q
  | bad => exact h
/-- x = [..], to be changed later -/
def sOwn (i : Nat) (ms : Env → Out (List D)) : Env → SO := fun Γ => SO.ofA (ms Γ) fun ds => if ds.length ≤ LIM then .nx (Γ.set i (some (.own ds))) else .bad
theorem s_own {i : Nat} {x : Str} {es : List Expr} {ms : Env → Out (List D)} {pos pos' lpos : Pos} (hN : X.N.Nodup) (hi : X.N[i]? = some x) (hx : Loc X.env.scope x) (h : PAm X T E es ms) (hs : swapsWith (.List es lpos) (some (.Name x pos')) pos.line X.env = pure false := by rfl)
    (hf : X.fn x = true ∨ X.env.scope.names.lookup x = some .local := by first | exact .inl rfl | exact .inr rfl) : PSm X T E (.Assign [.Name x pos'] (.List es lpos) pos) (sOwn i ms) :=
  weakS (ps_set hN hi hx (pe_lst h) hs hf) fun Dn σ H h => by
    obtain ⟨Γ, M, M0, H0, e, r, f⟩ := h
    refine ⟨Γ, M, H0, r, FinS.ofA e f fun d v H1 M1 e1 e2 r1 f1 => ?_⟩
    by_cases hl : d.length ≤ LIM
    · rw [if_pos hl] at f1
      refine ⟨by rw [r1.length]; exact lim_line hl, fun p hp => ?_⟩
      obtain ⟨q1, q2⟩ := (r.ext e2).newOwn e1 i hp r1
      exact f1 _ _ _ q1 q2
    · rw [if_neg hl] at f1
      exact f1.elim
/-- the lists of the slots are are shared from now on -/
def frzE (Γ : Env) (i : Nat) : Env := match Γ[i]? with
  | some (some (.own ds)) => Γ.set i (some (.dat (.lst ds)))
  | _ => Γ
def sFrz (i : Nat) (m : Env → SO) : Env → SO := fun Γ => m (frzE Γ i)
theorem sOf_frz {i : Nat} {m : Env → SO} {Dn : Ends} (h : sOf K mg T E (sFrz i m) Dn σ H) : sOf K mg T E m Dn σ H := by
  obtain ⟨Γ, M, M0, H0, e, r, f⟩ := h
  unfold sFrz frzE at f
  cases q : Γ[i]? with
  | none =>
    rw [q] at f
    exact ⟨Γ, M, M0, H0, e, r, f⟩
  | some o =>
    rw [q] at f
    cases o with
    | none => exact ⟨Γ, M, M0, H0, e, r, f⟩
    | some s =>
      cases s with
      | dat d => exact ⟨Γ, M, M0, H0, e, r, f⟩
      | dct ks => exact ⟨Γ, M, M0, H0, e, r, f⟩
      | own ds =>
        obtain ⟨M', q1, q2⟩ := r.freeze e q
        exact ⟨_, M', M0, H0, q1, q2, f⟩
theorem s_frz {i : Nat} {m : Env → SO} {st : Stmt} (h : PSm X T E st m) : PSm X T E st (sFrz i m) := weakS h fun _ _ _ h => sOf_frz h
theorem ss_frz {i : Nat} {m : Env → SO} {st : List Stmt} (h : PSsm X T E st m) : PSsm X T E st (sFrz i m) := weakSs h fun _ _ _ h => sOf_frz h
def ownAt (Γ : Env) (i : Nat) : Option (List D) := match Γ[i]? with
  | some (some (.own ds)) => some ds
  | _ => none
theorem ownAt_some {Γ : Env} {i : Nat} {ds : List D} (h : ownAt Γ i = some ds) : Γ[i]? = some (some (.own ds)) := by
  unfold ownAt at h
  cases q : Γ[i]? with
  | none => rw [q] at h; cases h
  | some o =>
    rw [q] at h
    cases o with
    | none => cases h
    | some s =>
      cases s with
      | dat d => cases h
      | dct ks => cases h
      | own es => cases h; rfl
/-- x.append(e) -/
def sApp (i : Nat) (m : Env → Out D) : Env → SO := fun Γ => match ownAt Γ i with
  | none => .bad
  | some ds => SO.ofO (m Γ) fun d => if ds.length < LIM then .nx (Γ.set i (some (.own (ds ++ [d])))) else .bad
theorem s_app {i : Nat} {x : Str} {e : Expr} {m : Env → Out D} {p1 apos cpos pos : Pos} (h : PEm X T E e m) (hN : X.N[i]? = some x := by rfl) (hv : Vis X.env.scope x := by first | exact Or.inl rfl | exact Or.inr (Or.inl rfl) | exact Or.inr (Or.inr rfl))
    (hbase : attributeBase (.Name x p1) "append" X.env (eval (.Name x p1) X.env) = eval (.Name x p1) X.env := by rfl)
    (hfew : ((backTo cpos (starEach [e] X.env)).all (fun x => !x.1) && (backToKw cpos (keywordEach [] X.env)).all (fun x => x.1.isSome) && decide ([e].length + ([] : List Keyword).length + (if ([] : List Keyword).isEmpty then 0 else 1) < 30)) = true := by rfl)
    (hline : (apos.endLine == cpos.line) = true := by rfl) (hs : starEach [e] X.env = (false, eval e X.env) :: starEach [] X.env := by rfl) (hplain : (backTo cpos (starEach [] X.env)).any (·.1) = false := by rfl)
    (hd : (x == ("__debug__" : Str)) = false := by decide) (hcd : (x == ("__classdict__" : Str)) = false := by decide)
    (hsw : swapsWith (.Call (.Attribute (.Name x p1) "append" apos) [e] [] cpos) none pos.line X.env = pure false := by rfl) :
    PSm X T E (.Expr (.Call (.Attribute (.Name x p1) "append" apos) [e] [] cpos) pos) (sApp i m) :=
  weakS (ps_expr (pe_bm PySem.F.plainAttrs_list PySem.F.slot_list_append PySem.F.type_list_append mt_append (pe_var hN hv hd hcd) (pa_cons h pa_nil hs) hbase hfew hline hs hplain) hsw) fun Dn σ H h => by
    obtain ⟨Γ, M, M0, H0, e, r, f⟩ := h
    unfold sApp at f
    cases q : ownAt Γ i with
    | none =>
      rw [q] at f
      exact f.elim
    | some ds =>
      rw [q] at f
      have hq := ownAt_some q
      obtain ⟨a, vs, h1, h2, h3, h4, h5⟩ := r.own i ds hq
      refine ⟨.ref a, h1, .inl ⟨rfl, vs, SqL.of h2⟩, Γ, M, H0, r, FinS.ofO e f fun d v H1 M1 e1 e2 r1 f1 => ?_⟩
      have r2 := r.ext e2
      obtain ⟨a', vs', k1, k2, k3, k4, k5⟩ := r2.own i ds hq
      rw [h1] at k1
      cases k1
      by_cases hl : ds.length < LIM
      · rw [if_pos hl] at f1
        refine ⟨a, vs', v, rfl, rfl, k2, ?_, f1 _ _ _ (e1.mut k3 k2 k4) (r2.mut hq h1 k2 k3 k4 (k5.append (.cons r1 .nil)))⟩
        rw [k5.length, sizeLine_eq]
        exact hl
      · rw [if_neg hl] at f1
        exact f1.elim
/-- x.extend(e), e a list -/
def sExtd (i : Nat) (m : Env → Out D) : Env → SO := fun Γ => match ownAt Γ i with
  | none => .bad
  | some ds => SO.ofO (m Γ) fun d => match d with
    | .lst es => if ds.length + es.length ≤ LIM then .nx (Γ.set i (some (.own (ds ++ es)))) else .bad
    | _ => .bad
theorem s_extd {i : Nat} {x : Str} {e : Expr} {m : Env → Out D} {p1 apos cpos pos : Pos} (h : PEm X T E e m) (hN : X.N[i]? = some x := by rfl) (hv : Vis X.env.scope x := by first | exact Or.inl rfl | exact Or.inr (Or.inl rfl) | exact Or.inr (Or.inr rfl))
    (hbase : attributeBase (.Name x p1) "extend" X.env (eval (.Name x p1) X.env) = eval (.Name x p1) X.env := by rfl)
    (hfew : ((backTo cpos (starEach [e] X.env)).all (fun x => !x.1) && (backToKw cpos (keywordEach [] X.env)).all (fun x => x.1.isSome) && decide ([e].length + ([] : List Keyword).length + (if ([] : List Keyword).isEmpty then 0 else 1) < 30)) = true := by rfl)
    (hline : (apos.endLine == cpos.line) = true := by rfl) (hs : starEach [e] X.env = (false, eval e X.env) :: starEach [] X.env := by rfl) (hplain : (backTo cpos (starEach [] X.env)).any (·.1) = false := by rfl)
    (hd : (x == ("__debug__" : Str)) = false := by decide) (hcd : (x == ("__classdict__" : Str)) = false := by decide)
    (hsw : swapsWith (.Call (.Attribute (.Name x p1) "extend" apos) [e] [] cpos) none pos.line X.env = pure false := by rfl) :
    PSm X T E (.Expr (.Call (.Attribute (.Name x p1) "extend" apos) [e] [] cpos) pos) (sExtd i m) :=
  weakS (ps_expr (pe_bm PySem.F.plainAttrs_list PySem.F.slot_list_extend PySem.F.type_list_extend mt_extend (pe_var hN hv hd hcd) (pa_cons h pa_nil hs) hbase hfew hline hs hplain) hsw) fun Dn σ H h => by
    obtain ⟨Γ, M, M0, H0, e, r, f⟩ := h
    unfold sExtd at f
    cases q : ownAt Γ i with
    | none =>
      rw [q] at f
      exact f.elim
    | some ds =>
      rw [q] at f
      have hq := ownAt_some q
      obtain ⟨a, vs, h1, h2, h3, h4, h5⟩ := r.own i ds hq
      refine ⟨.ref a, h1, .inl ⟨rfl, vs, SqL.of h2⟩, Γ, M, H0, r, FinS.ofO e f fun d v H1 M1 e1 e2 r1 f1 => ?_⟩
      have r2 := r.ext e2
      obtain ⟨a', vs', k1, k2, k3, k4, k5⟩ := r2.own i ds hq
      rw [h1] at k1
      cases k1
      cases r1 with
      | @lst b us es hb rb =>
        have f1 : FinS _ _ _ _ _ _ _ (if ds.length + es.length ≤ LIM then SO.nx (Γ.set i (some (.own (ds ++ es)))) else .bad) := f1
        by_cases hl : ds.length + es.length ≤ LIM
        · rw [if_pos hl] at f1
          refine ⟨a, b, vs', us, rfl, rfl, k2, r2.ms b _ hb, ?_, f1 _ _ _ (e1.mut k3 k2 k4) (r2.mut hq h1 k2 k3 k4 (k5.append rb))⟩
          rw [k5.length, rb.length, sizeLine_eq]
          exact hl
        · rw [if_neg hl] at f1
          exact f1.elim
      | _ => exact f1.elim

/-! ### targets -/
inductive Pt where
  | nm (i : Nat) | tp (is : List Nat)
def setAll : List Nat → List D → Env → Env
  | i :: is, d :: ds, Γ => setAll is ds (Γ.set i (some (.dat d)))
  | _, _, Γ => Γ
def bindP : Pt → D → Env → Option Env
  | .nm i, d, Γ => some (Γ.set i (some (.dat d)))
  | .tp is, .tup ds, Γ => if ds.length = is.length then some (setAll is ds Γ) else none
  | .tp _, _, _ => none
def gsP : List Nat → TGs
  | [] => gNil
  | i :: is => gCons (gName i) (gsP is)
def gP (K : PySem.W.Frag) : Pt → TG
  | .nm i => gName i
  | .tp is => gTup K is.length (gsP is)
def setV : List Nat → List V → L2.St → L2.St
  | i :: is, v :: vs, σ => setV is vs (σ.set i (some v))
  | _, _, σ => σ
theorem Rs.setAll : ∀ {is : List Nat} {ds : List D} {vs : List V} {Γ : Env} {σ : L2.St}, Rs K mg T H0 M H Γ σ → RpL K mg M vs ds → Rs K mg T H0 M H (FL.setAll is ds Γ) (setV is vs σ)
  | [], _, _, _, _, r, .nil => r
  | [], _, _, _, _, r, .cons _ _ => r
  | _ :: _, _, _, _, _, r, .nil => r
  | i :: is, _, _, _, _, r, .cons h t => Rs.setAll (is := is) (r.set i h) t
theorem gsP_of : ∀ {is : List Nat} {vs : List V} {σ : L2.St} {H : Hp} {Q : L2.St → Hp → Prop}, vs.length = is.length → Q (setV is vs σ) H → gsP is vs σ H Q
  | [], [], _, _, _, _, q => ⟨rfl, q⟩
  | [], _ :: _, _, _, _, h, _ => by cases h
  | _ :: _, [], _, _, _, h, _ => by cases h
  | i :: is, v :: vs, _, _, _, h, q => ⟨v, vs, rfl, gsP_of (is := is) (by simpa using h) q⟩
def ptS (p : Pt) (v : V) (vs : List V) (σ : L2.St) : L2.St := match p with
  | .nm i => σ.set i (some v)
  | .tp is => setV is vs σ
theorem gP_of {p : Pt} {v : V} {d : D} {Q : L2.St → Hp → Prop} (r : Rs K mg T H0 M H Γ σ) (h : Rp K mg M v d) (hb : bindP p d Γ = some Γ') (q : ∀ vs, Rs K mg T H0 M H Γ' (ptS p v vs σ) → Q (ptS p v vs σ) H) : gP K p v σ H Q := by
  cases p with
  | nm i =>
    cases hb
    exact q [] (r.set i h)
  | tp is =>
    cases h with
    | @tup a vs ds ha hl =>
      have hb : (if ds.length = is.length then some (FL.setAll is ds Γ) else none) = some Γ' := hb
      by_cases hn : ds.length = is.length
      · rw [if_pos hn] at hb
        cases hb
        exact ⟨a, vs, rfl, same_sqT r.ms ha, by rw [hl.length]; exact hn, gsP_of (by rw [hl.length]; exact hn) (q vs (r.setAll hl))⟩
      · rw [if_neg hn] at hb
        cases hb
    | _ => cases hb
def Pt.ix : Pt → List Nat
  | .nm i => [i]
  | .tp is => is
/-- a, b = e -/
def sTup (p : Pt) (m : Env → Out D) : Env → SO := fun Γ => SO.ofO (m Γ) fun d => match bindP p d Γ with
  | some Γ' => .nx Γ'
  | none => .bad
theorem s_tup {p : Pt} {tg e : Expr} {m : Env → Out D} {pos : Pos} (hh : PS X (.Assign [tg] e pos) (tAsg (tOf X.K X.mg T E m) (gP X.K p))) :
    PSm X T E (.Assign [tg] e pos) (sTup p m) := weakS hh fun Dn σ H h => by
  obtain ⟨Γ, M, M0, H0, e, r, f⟩ := h
  refine ⟨Γ, M, H0, r, FinS.ofO e f fun d v H1 M1 e1 e2 r1 f1 => ?_⟩
  cases q : bindP p d Γ with
  | none =>
    rw [q] at f1
    exact f1.elim
  | some Γ' =>
    rw [q] at f1
    exact gP_of (r.ext e2) r1 q fun vs r3 => f1 _ _ _ e1 r3
/-- a, b = x, y -/
def sPar (i j : Nat) (ms : Env → Out (List D)) : Env → SO := fun Γ => SO.ofA (ms Γ) fun ds => match ds with
  | [a, b] => .nx ((Γ.set i (some (.dat a))).set j (some (.dat b)))
  | _ => .bad
theorem tPar_of {i j : Nat} {ms : Env → Out (List D)} {Dn : Ends} (h : sOf K mg T E (sPar i j ms) Dn σ H) : tPar i j (taOf K mg T E ms) Dn σ H := by
  obtain ⟨Γ, M, M0, H0, e, r, f⟩ := h
  refine ⟨Γ, M, H0, r, FinS.ofA e f fun d v H1 M1 e1 e2 r1 f1 => ?_⟩
  cases r1 with
  | nil => exact f1.elim
  | cons h1 t1 =>
    cases t1 with
    | nil => exact f1.elim
    | cons h2 t2 =>
      cases t2 with
      | nil => exact ⟨_, _, rfl, f1 _ _ _ e1 (((r.ext e2).set i h1).set j h2)⟩
      | cons _ _ => exact f1.elim

/-! ### what is walked -/
structure Wk (K : PySem.W.Frag) (mg : Str → Option Value) (T : List (Addr × Str)) (M : Hp) (J : It) (ds : List D) : Prop where
  goes : ∀ i H, i < ds.length → Same M H → J.go i H
  stops : ∀ H, Same M H → J.stop ds.length H
  yields : ∀ i M2 H x H', i < ds.length → Same M M2 → Same M2 H → (∀ a ps, M2 a ≠ some (.tbl ps)) → J.yld i H x H' → ∃ d M3, ds[i]? = some d ∧ Ext T M2 H M3 H' ∧ Rp K mg M3 x d
def FinI (K : PySem.W.Frag) (mg : Str → Option Value) (T : List (Addr × Str)) (M H : Hp) (R : It → Hp → Prop) (E : XK) : Out (List D) → Prop
  | .ok ds => ∀ J H' M', Ext T M H M' H' → Wk K mg T M' J ds → R J H'
  | .exc c => ∀ C H' M', Ext T M H M' H' → mg c = some (.ref C) → E (.ref C) none H'
  | .bad => False
def iOf (K : PySem.W.Frag) (mg : Str → Option Value) (T : List (Addr × Str)) (E : XK) (m : Env → Out (List D)) : TI := fun σ H R => ∃ Γ M H0, Rs K mg T H0 M H Γ σ ∧ FinI K mg T M H R E (m Γ)
abbrev PIm (X : Cx) (T : List (Addr × Str)) (E : XK) (tg e : Expr) (m : Env → Out (List D)) : Prop := PI X tg e (iOf X.K X.mg T E m)
theorem weakI {tg e : Expr} {t t' : TI} (h : PI X tg e t) (w : ∀ σ H Q, t' σ H Q → t σ H Q) : PI X tg e t' := ⟨fun pins s σ H R I q => h.run pins s σ H R I (w σ H R q)⟩
theorem FinI.up {R : It → Hp → Prop} {o : Out (List D)} (h : FinI K mg T M H R E o) (e : Ext T M H M1 H1) : FinI K mg T M1 H1 R E o := by
  cases o with
  | ok d => exact fun J H2 M2 e2 r2 => h J H2 M2 (e.trans e2) r2
  | exc c => exact fun C H2 M2 e2 r2 => h C H2 M2 (e.trans e2) r2
  | bad => exact h
theorem FinI.bind {R : It → Hp → Prop} {Q' : VK} {o : Out D} {f : D → Out (List D)} (h : FinI K mg T M H R E (o.bind f))
    (k : ∀ d v H1 M1, o = .ok d → Ext T M H M1 H1 → Rp K mg M1 v d → FinI K mg T M1 H1 R E (f d) → Q' v H1) : Fin K mg T M H Q' E o := by
  cases o with
  | ok d => exact fun v H1 M1 e r => k d v H1 M1 rfl e r (FinI.up h e)
  | exc c => exact h
  | bad => exact h
theorem FinI.bindA {R : It → Hp → Prop} {Q' : List V → Hp → Prop} {o : Out (List D)} {f : List D → Out (List D)} (h : FinI K mg T M H R E (o.bind f))
    (k : ∀ d v H1 M1, o = .ok d → Ext T M H M1 H1 → RpL K mg M1 v d → FinI K mg T M1 H1 R E (f d) → Q' v H1) : FinA K mg T M H Q' E o := by
  cases o with
  | ok d => exact fun v H1 M1 e r => k d v H1 M1 rfl e r (FinI.up h e)
  | exc c => exact h
  | bad => exact h
def items : D → Out (List D)
  | .lst ds => .ok ds
  | .tup ds => .ok ds
  | _ => .bad
def mItems (m : Env → Out D) : Env → Out (List D) := fun Γ => (m Γ).bind items
theorem wk_list {a : Addr} {vs : List V} {ds : List D} (h : M a = some (.lst vs)) (r : RpL K mg M vs ds) : Wk K mg T M (Itl K a) ds where
  goes := fun i H hi s => ⟨vs, vs[i]'(by rw [r.length]; exact hi), SqL.of (s _ _ h), by simp [r.length, hi]⟩
  stops := fun H s => ⟨vs, SqL.of (s _ _ h), by rw [r.length]; exact Nat.le_refl _⟩
  yields := fun i M2 H x H' hi s1 s2 nt y => by
    obtain ⟨e, y⟩ := y
    subst e
    have q := y vs (SqL.of (s2 _ _ (s1 _ _ h)))
    obtain ⟨d, h1, h2⟩ := r.get' q
    exact ⟨d, M2, h1, Ext.refl s2 nt, h2.mono s1⟩
theorem wk_tup {a : Addr} {vs : List V} {ds : List D} (h : SqT K M a vs) (r : RpL K mg M vs ds) : Wk K mg T M (Itt K a) ds where
  goes := fun i H hi s => ⟨vs, vs[i]'(by rw [r.length]; exact hi), same_sqT s h, by simp [r.length, hi]⟩
  stops := fun H s => ⟨vs, same_sqT s h, by rw [r.length]; exact Nat.le_refl _⟩
  yields := fun i M2 H x H' hi s1 s2 nt y => by
    obtain ⟨e, y⟩ := y
    subst e
    have q := y vs (same_sqT s2 (same_sqT s1 h))
    obtain ⟨d, h1, h2⟩ := r.get' q
    exact ⟨d, M2, h1, Ext.refl s2 nt, h2.mono s1⟩
/-- a list or a tuple -/
def iSeq (K : PySem.W.Frag) (tl : TE) : TI := fun σ H R => tl σ H fun x H1 => ∃ a, x = .ref a ∧ (((∃ xs, SqL K H1 a xs) ∧ R (Itl K a) H1) ∨ ((∃ xs, SqT K H1 a xs) ∧ R (Itt K a) H1))
theorem pi_seq {tg l : Expr} {tl : TE} (hl : PE X l tl) : PI X tg l (iSeq X.K tl) := by
  refine ⟨fun pins s σ H R I h => ?_⟩
  refine thn (hl.run pins s σ H _ I h) fun v s1 ⟨x, H1, I1, r1, q1⟩ => ?_
  obtain ⟨a, e, q1⟩ := q1
  subst e
  cases r1
  rcases q1 with ⟨⟨xs, hq⟩, q⟩ | ⟨⟨xs, hq⟩, q⟩
  · obtain ⟨its, rv, p, hz⟩ := I1.list hq
    refine wpAny_pyIter_list p.isList ?_
    refine ⟨s1.heap.objs.size, [s1.heap.objs.size], _, _, H1, rfl, I1.kept (t' := s1.toks) fun b o e => Heap.get?_push_of_some _ e, turn_list a _, ⟨_, Heap.get?_push_size _ rfl, rfl, rfl⟩, fun b hb => ?_, q⟩
    have e : b = s1.heap.objs.size := by simpa using hb
    subst e
    exact I1.fpOk (Nat.le_refl _) (I1.hok.fresh (Nat.le_refl _))
  · obtain ⟨its, rv, p, hz⟩ := I1.tuple hq
    refine wpAny_pyIter_tuple (show s1.heap.IsTuple a its.toArray from p) ?_
    refine ⟨s1.heap.objs.size, [s1.heap.objs.size], _, _, H1, rfl, I1.kept (t' := s1.toks) fun b o e => Heap.get?_push_of_some _ e, turn_tuple a _, ⟨_, Heap.get?_push_size _ rfl, rfl, rfl⟩, fun b hb => ?_, q⟩
    have e : b = s1.heap.objs.size := by simpa using hb
    subst e
    exact I1.fpOk (Nat.le_refl _) (I1.hok.fresh (Nat.le_refl _))
theorem i_seq {tg e : Expr} {m : Env → Out D} (h : PEm X T E e m) : PIm X T E tg e (mItems m) := weakI (pi_seq h) fun σ H R h => by
  obtain ⟨Γ, M, H0, r, f⟩ := h
  refine ⟨Γ, M, H0, r, FinI.bind f fun d v H1 M1 _ e1 r1 f1 => ?_⟩
  have rs := r.ext e1
  cases r1 with
  | lst ha ra => exact ⟨_, rfl, .inl ⟨⟨_, SqL.of (rs.ms _ _ ha)⟩, f1 _ _ _ rs.ext0 (wk_list ha ra)⟩⟩
  | tup ha ra => exact ⟨_, rfl, .inr ⟨⟨_, same_sqT rs.ms ha⟩, f1 _ _ _ rs.ext0 (wk_tup ha ra)⟩⟩
  | _ => exact f1.elim
/-- range(n), range(a, b) -/
def intsD (lo : Int) (n : Nat) : List D := (List.range n).map fun i => .int (lo + (i : Nat))
theorem wk_range {lo : Int} {n : Nat} : Wk K mg T M (Itr lo n) (intsD lo n) where
  goes := fun i H hi s => by
    rw [intsD, List.length_map, List.length_range] at hi
    exact hi
  stops := fun H s => by
    rw [intsD, List.length_map, List.length_range]
    exact Nat.le_refl _
  yields := fun i M2 H x H' hi s1 s2 nt y => by
    rw [intsD, List.length_map, List.length_range] at hi
    obtain ⟨e, y⟩ := y
    subst e y
    refine ⟨.int (lo + (i : Nat)), M2, ?_, Ext.refl s2 nt, .int _⟩
    rw [intsD, List.getElem?_map, List.getElem?_range hi]
    rfl
def RLIM : Int := 4611686018427387904
def rng1 : List D → Out (List D)
  | [.int j] => if -RLIM ≤ j ∧ j < RLIM then .ok (intsD 0 j.toNat) else .bad
  | _ => .bad
def rng2 : List D → Out (List D)
  | [.int i, .int j] => if (-RLIM ≤ i ∧ i < RLIM) ∧ (-RLIM ≤ j ∧ j < RLIM) then .ok (intsD i (j - i).toNat) else .bad
  | _ => .bad
def mI (f : List D → Out (List D)) (ms : Env → Out (List D)) : Env → Out (List D) := fun Γ => (ms Γ).bind f
theorem i_range1 {tg a : Expr} {ms : Env → Out (List D)} {p pos : Pos} (hg : Gl X "range") (hm : X.mg "range" = none) (ha : PAm X T E [a] ms) (hs : starEach [a] X.env = [(false, eval a X.env)] := by rfl) : PIm X T E tg (.Call (.Name "range" p) [a] [] pos) (mI rng1 ms) :=
  weakI (pi_range1 hg hm ha hs) fun σ H R h => by
    obtain ⟨Γ, M, H0, r, f⟩ := h
    refine ⟨Γ, M, H0, r, FinI.bindA f fun d v H1 M1 _ e1 r1 f1 => ?_⟩
    have rs := r.ext e1
    cases r1 with
    | nil => exact f1.elim
    | cons h1 t1 =>
      cases h1 with
      | int j =>
        cases t1 with
        | nil =>
          have f1 : FinI _ _ _ _ _ _ _ (if -RLIM ≤ j ∧ j < RLIM then Out.ok (intsD 0 j.toNat) else .bad) := f1
          by_cases hj : -RLIM ≤ j ∧ j < RLIM
          · rw [if_pos hj] at f1
            unfold RLIM at hj
            exact ⟨j, rfl, by omega, by omega, f1 _ _ _ rs.ext0 wk_range⟩
          · rw [if_neg hj] at f1
            exact f1.elim
        | cons _ _ => exact f1.elim
      | _ => exact f1.elim
theorem i_range2 {tg a b : Expr} {ms : Env → Out (List D)} {p pos : Pos} (hh : PI X tg (.Call (.Name "range" p) [a, b] [] pos) (iRng2 (taOf X.K X.mg T E ms))) : PIm X T E tg (.Call (.Name "range" p) [a, b] [] pos) (mI rng2 ms) :=
  weakI hh fun σ H R h => by
    obtain ⟨Γ, M, H0, r, f⟩ := h
    refine ⟨Γ, M, H0, r, FinI.bindA f fun d v H1 M1 _ e1 r1 f1 => ?_⟩
    have rs := r.ext e1
    cases r1 with
    | nil => exact f1.elim
    | cons h1 t1 =>
      cases h1 with
      | int i =>
        cases t1 with
        | nil => exact f1.elim
        | cons h2 t2 =>
          cases h2 with
          | int j =>
            cases t2 with
            | nil =>
              have f1 : FinI _ _ _ _ _ _ _ (if (-RLIM ≤ i ∧ i < RLIM) ∧ (-RLIM ≤ j ∧ j < RLIM) then Out.ok (intsD i (j - i).toNat) else .bad) := f1
              by_cases hj : (-RLIM ≤ i ∧ i < RLIM) ∧ (-RLIM ≤ j ∧ j < RLIM)
              · rw [if_pos hj] at f1
                unfold RLIM at hj
                exact ⟨i, j, rfl, ⟨by omega, by omega, by omega, by omega⟩, f1 _ _ _ rs.ext0 wk_range⟩
              · rw [if_neg hj] at f1
                exact f1.elim
            | cons _ _ => exact f1.elim
          | _ => exact f1.elim
      | _ => exact f1.elim
/-- enumerate(list), zip(list, list), zip(tuple, tuple) -/
def enumI : List D → Out (List D)
  | [.lst ds] => .ok (ds.mapIdx fun i d => .tup [.int (i : Nat), d])
  | _ => .bad
def zipL : List D → List D → List D
  | a :: as, b :: bs => .tup [a, b] :: zipL as bs
  | _, _ => []
theorem zipL_length : ∀ (as bs : List D), (zipL as bs).length = min as.length bs.length
  | [], bs => by simp [zipL]
  | _ :: _, [] => by simp [zipL]
  | a :: as, b :: bs => by
    simp only [zipL, List.length_cons, zipL_length as bs]
    omega
theorem zipL_get : ∀ {as bs : List D} {i : Nat} {a b : D}, as[i]? = some a → bs[i]? = some b → (zipL as bs)[i]? = some (.tup [a, b])
  | [], _, _, _, _, h, _ => by simp at h
  | _ :: _, [], _, _, _, _, h => by simp at h
  | a :: as, b :: bs, 0, _, _, h1, h2 => by
    simp at h1 h2
    subst h1 h2
    rfl
  | a :: as, b :: bs, i + 1, _, _, h1, h2 => by
    simp only [zipL, List.getElem?_cons_succ] at h1 h2 ⊢
    exact zipL_get h1 h2
def zipI : List D → Out (List D)
  | [.lst as, .lst bs] => .ok (zipL as bs)
  | [.tup as, .tup bs] => .ok (zipL as bs)
  | _ => .bad
theorem newPair {Tn : Addr} {x y : V} {dx dy : D} (hT : H Tn = none) (ms : Same M H) (nt : ∀ a ps, M a ≠ some (.tbl ps)) (hx : Rp K mg M x dx) (hy : Rp K mg M y dy) : ∃ M3, Ext T M H M3 (upd H Tn (.tup [x, y])) ∧ Rp K mg M3 (.ref Tn) (.tup [dx, dy]) := by
  have e := Ext.new (T := T) ms nt hT (o := .tup [x, y]) (fun ps z => by cases z)
  exact ⟨_, e, .tup (SqT.of upd_same) (.cons (hx.mono e.mm) (.cons (hy.mono e.mm) .nil))⟩
theorem wk_enum {a : Addr} {vs : List V} {ds : List D} (h : M a = some (.lst vs)) (r : RpL K mg M vs ds) : Wk K mg T M (Ite K a) (ds.mapIdx fun i d => .tup [.int (i : Nat), d]) where
  goes := fun i H hi s => by
    rw [List.length_mapIdx] at hi
    exact ⟨vs, vs[i]'(by rw [r.length]; exact hi), SqL.of (s _ _ h), by simp [r.length, hi]⟩
  stops := fun H s => by
    rw [List.length_mapIdx]
    exact ⟨vs, SqL.of (s _ _ h), by rw [r.length]; exact Nat.le_refl _⟩
  yields := fun i M2 H x H' hi s1 s2 nt y => by
    obtain ⟨Tn, z, e1, e2, e3, q⟩ := y
    subst e1 e3
    have q := q vs (SqL.of (s2 _ _ (s1 _ _ h)))
    obtain ⟨d, h1, h2⟩ := r.get' q
    obtain ⟨M3, k1, k2⟩ := newPair (T := T) e2 s2 nt (.int (i : Nat)) (h2.mono s1)
    exact ⟨_, M3, by rw [List.getElem?_mapIdx, h1]; rfl, k1, k2⟩
theorem wk_zip {a b : Addr} {vs ws : List V} {ds es : List D} (h : M a = some (.lst vs)) (r : RpL K mg M vs ds) (h' : M b = some (.lst ws)) (r' : RpL K mg M ws es) : Wk K mg T M (Itz K a b) (zipL ds es) where
  goes := fun i H hi s => by
    rw [zipL_length] at hi
    exact ⟨vs, ws, vs[i]'(by rw [r.length]; omega), ws[i]'(by rw [r'.length]; omega), SqL.of (s _ _ h), SqL.of (s _ _ h'), by rw [List.getElem?_eq_getElem], by rw [List.getElem?_eq_getElem]⟩
  stops := fun H s => by
    rw [zipL_length]
    exact ⟨vs, ws, SqL.of (s _ _ h), SqL.of (s _ _ h'), by rw [r.length, r'.length]; omega⟩
  yields := fun i M2 H x H' hi s1 s2 nt y => by
    obtain ⟨Tn, z, z', e1, e2, e3, q, q'⟩ := y
    subst e1 e3
    have q := q vs (SqL.of (s2 _ _ (s1 _ _ h)))
    have q' := q' ws (SqL.of (s2 _ _ (s1 _ _ h')))
    obtain ⟨d, h1, h2⟩ := r.get' q
    obtain ⟨d', h1', h2'⟩ := r'.get' q'
    obtain ⟨M3, k1, k2⟩ := newPair (T := T) e2 s2 nt (h2.mono s1) (h2'.mono s1)
    exact ⟨_, M3, zipL_get h1 h1', k1, k2⟩
theorem wk_zipT {a b : Addr} {vs ws : List V} {ds es : List D} (h : SqT K M a vs) (r : RpL K mg M vs ds) (h' : SqT K M b ws) (r' : RpL K mg M ws es) : Wk K mg T M (RZ.ItzT K a b) (zipL ds es) where
  goes := fun i H hi s => by
    rw [zipL_length] at hi
    exact ⟨vs, ws, vs[i]'(by rw [r.length]; omega), ws[i]'(by rw [r'.length]; omega), same_sqT s h, same_sqT s h', by rw [List.getElem?_eq_getElem], by rw [List.getElem?_eq_getElem]⟩
  stops := fun H s => by
    rw [zipL_length]
    exact ⟨vs, ws, same_sqT s h, same_sqT s h', by rw [r.length, r'.length]; omega⟩
  yields := fun i M2 H x H' hi s1 s2 nt y => by
    obtain ⟨Tn, z, z', e1, e2, e3, q, q'⟩ := y
    subst e1 e3
    have q := q vs (same_sqT s2 (same_sqT s1 h))
    have q' := q' ws (same_sqT s2 (same_sqT s1 h'))
    obtain ⟨d, h1, h2⟩ := r.get' q
    obtain ⟨d', h1', h2'⟩ := r'.get' q'
    obtain ⟨M3, k1, k2⟩ := newPair (T := T) e2 s2 nt (h2.mono s1) (h2'.mono s1)
    exact ⟨_, M3, zipL_get h1 h1', k1, k2⟩
theorem i_enum {a : Expr} {ms : Env → Out (List D)} {p pos tpos : Pos} {elts : List Expr} {kk : Nat} (hg : Gl X "enumerate") (hm : X.mg "enumerate" = none) (ha : PAm X T E [a] ms) (hs : starEach [a] X.env = [(false, eval a X.env)] := by rfl) : PIm X T E (.Tuple elts kk tpos) (.Call (.Name "enumerate" p) [a] [] pos) (mI enumI ms) :=
  weakI (pi_enum hg hm ha hs) fun σ H R h => by
    obtain ⟨Γ, M, H0, r, f⟩ := h
    refine ⟨Γ, M, H0, r, FinI.bindA f fun d v H1 M1 _ e1 r1 f1 => ?_⟩
    have rs := r.ext e1
    cases r1 with
    | nil => exact f1.elim
    | cons h1 t1 =>
      cases h1 with
      | lst hb rb =>
        cases t1 with
        | nil => exact ⟨_, _, rfl, SqL.of (rs.ms _ _ hb), f1 _ _ _ rs.ext0 (wk_enum hb rb)⟩
        | cons _ _ => exact f1.elim
      | _ => exact f1.elim
theorem i_zip {a b : Expr} {ms : Env → Out (List D)} {p pos tpos : Pos} {elts : List Expr} {kk : Nat} (hg : Gl X "zip") (hm : X.mg "zip" = none) (ha : PAm X T E [a, b] ms)
    (hs : starEach [a, b] X.env = (false, eval a X.env) :: starEach [b] X.env := by rfl) (hpl : (backTo pos (starEach [b] X.env)).any (·.1) = false := by rfl) : PIm X T E (.Tuple elts kk tpos) (.Call (.Name "zip" p) [a, b] [] pos) (mI zipI ms) :=
  weakI (RZ.pi_zipA hg hm ha hs hpl) fun σ H R h => by
    obtain ⟨Γ, M, H0, r, f⟩ := h
    refine ⟨Γ, M, H0, r, FinI.bindA f fun d v H1 M1 _ e1 r1 f1 => ?_⟩
    have rs := r.ext e1
    cases r1 with
    | nil => exact f1.elim
    | cons h1 t1 =>
      cases t1 with
      | nil => cases h1 <;> exact f1.elim
      | cons h2 t2 =>
        cases t2 with
        | cons _ _ => cases h1 <;> cases h2 <;> exact f1.elim
        | nil =>
          cases h1 with
          | lst hb rb =>
            cases h2 with
            | lst hc rc => exact ⟨_, _, _, _, rfl, .inl ⟨SqL.of (rs.ms _ _ hb), SqL.of (rs.ms _ _ hc), f1 _ _ _ rs.ext0 (wk_zip hb rb hc rc)⟩⟩
            | _ => exact f1.elim
          | tup hb rb =>
            cases h2 with
            | tup hc rc => exact ⟨_, _, _, _, rfl, .inr ⟨same_sqT rs.ms hb, same_sqT rs.ms hc, f1 _ _ _ rs.ext0 (wk_zipT hb rb hc rc)⟩⟩
            | _ => exact f1.elim
          | _ => cases h2 <;> exact f1.elim
end FL
set_option Elab.async false
set_option linter.all false
set_option maxRecDepth 100000
set_option maxHeartbeats 2000000
namespace FL
open PySem PySem.Spec PyProof.Rows L2 LamX
variable {K : PySem.W.Frag} {mg : Str → Option Value} {T : List (Addr × Str)} {H0 M0 M M' M1 M2 H H' H1 H2 : Hp} {Γ Γ' : Env} {σ σ' : L2.St} {E : XK} {X : Cx}

/-- another beginning for M -/
theorem Ext.low (e : Ext T M0 H0 M H) (h0 : Same M0 M1) (h1 : Same M1 M) : Ext T M1 H0 M H :=
  ⟨e.kp, e.tb, h1, e.ms, e.nt, fun a o h => by
    rcases e.nw a o h with q | q
    · exact .inl (h0 a o q)
    · exact .inr q⟩
theorem Ext.reb (e1 : Ext T M0 H0 M1 H1) (e : Ext T M1 H0 M H) : Ext T M0 H0 M H :=
  ⟨e.kp, e.tb, e1.mm.trans e.mm, e.ms, e.nt, fun a o h => by
    rcases e.nw a o h with q | q
    · exact e1.nw a o q
    · exact .inr q⟩
theorem FinS.reb {Dn : Ends} {o : SO} (e1 : Ext T M0 H0 M1 H1) (h : FinS K mg T M0 H0 Dn E o) : FinS K mg T M1 H0 Dn E o := by
  cases o with
  | nx Γ => exact fun σ H M e r => h σ H M (e1.reb e) r
  | rt d => exact fun v H M e r => h v H M (e1.reb e) r
  | bk Γ => exact fun σ H M e r => h σ H M (e1.reb e) r
  | ct Γ => exact fun σ H M e r => h σ H M (e1.reb e) r
  | exc c => exact fun C H M e r => h C H M (e1.reb e) r
  | bad => exact h
/-! ### for -/
def forL (p : Pt) (b : Env → SO) : List D → Env → SO
  | [], Γ => .nx Γ
  | d :: ds, Γ => match bindP p d Γ with
    | none => .bad
    | some Γ1 => match b Γ1 with
      | .nx Γ2 => forL p b ds Γ2
      | .ct Γ2 => forL p b ds Γ2
      | .bk Γ2 => .nx Γ2
      | .rt d => .rt d
      | .exc c => .exc c
      | .bad => .bad
def sFor (p : Pt) (it : Env → Out (List D)) (b : Env → SO) : Env → SO := fun Γ => SO.ofA (it Γ) fun ds => forL p b ds Γ
theorem FinS.ofI {Dn : Ends} {R : It → Hp → Prop} {o : Out (List D)} {f : List D → SO} (e0 : Ext T M0 H0 M H) (h : FinS K mg T M0 H0 Dn E (SO.ofA o f))
    (k : ∀ d J H1 M1, Ext T M0 H0 M1 H1 → Ext T M H M1 H1 → Wk K mg T M1 J d → FinS K mg T M0 H0 Dn E (f d) → R J H1) : FinI K mg T M H R E o := by
  cases o with
  | ok d => exact fun J H1 M1 e r => k d J H1 M1 (e0.trans e) e r h
  | exc c => exact fun C H' M' e q => h C H' M' (e0.trans e) q
  | bad => exact h
theorem tFor_of {p : Pt} {it : Env → Out (List D)} {b : Env → SO} {Dn : Ends} (h : sOf K mg T E (sFor p it b) Dn σ H) : tFor (iOf K mg T E it) (gP K p) (sOf K mg T E b) Dn σ H := by
  obtain ⟨Γ, M, M0, H0, e, r, f⟩ := h
  refine ⟨Γ, M, H0, r, FinS.ofI e f fun ds J H1 M1 e1 e2 w f1 => ?_⟩
  refine ⟨fun i m σ H => m = ds.length - i ∧ i ≤ ds.length ∧ ∃ Γ M, Ext T M0 H0 M H ∧ Same M1 M ∧ Rs K mg T H0 M H Γ σ ∧ FinS K mg T M0 H0 Dn E (forL p b (ds.drop i) Γ), ⟨ds.length, by simp, Nat.zero_le _, Γ, M1, e1, Same.refl _, r.ext e2, f1⟩, ?_⟩
  rintro i m σ3 H3 ⟨rfl, hi, Γ3, M3, e3, s3, r3, f3⟩
  by_cases hlt : i < ds.length
  · have hd : ds.drop i = ds[i] :: ds.drop (i + 1) := List.drop_eq_getElem_cons hlt
    refine .inr ⟨w.goes i H3 hlt (s3.trans r3.ms), fun σ H => i + 1 ≤ ds.length ∧ ∃ Γ M, Ext T M0 H0 M H ∧ Same M1 M ∧ Rs K mg T H0 M H Γ σ ∧ FinS K mg T M0 H0 Dn E (forL p b (ds.drop (i + 1)) Γ), fun σ' H' ⟨hl, q⟩ => ⟨ds.length - (i + 1), by omega, rfl, hl, q⟩, fun x H4 y => ?_⟩
    obtain ⟨d, M4, hd4, e4, r4⟩ := w.yields i M3 H3 x H4 hlt s3 r3.ms r3.nt y
    have ed : d = ds[i] := by
      rw [List.getElem?_eq_getElem hlt] at hd4
      exact (Option.some.inj hd4).symm
    subst ed
    rw [hd] at f3
    unfold forL at f3
    cases q : bindP p ds[i] Γ3 with
    | none =>
      rw [q] at f3
      exact f3.elim
    | some Γ5 =>
      rw [q] at f3
      have f3 : FinS K mg T M0 H0 Dn E (match b Γ5 with
        | .nx Γ2 => forL p b (ds.drop (i + 1)) Γ2
        | .ct Γ2 => forL p b (ds.drop (i + 1)) Γ2
        | .bk Γ2 => .nx Γ2
        | .rt d => .rt d
        | .exc c => .exc c
        | .bad => .bad) := f3
      refine gP_of (r3.ext e4) r4 q fun vs r5 => ?_
      refine ⟨Γ5, M4, M1, H0, (e3.trans e4).low e1.mm (s3.trans e4.mm), r5, ?_⟩
      have again : ∀ Γ6, FinS K mg T M0 H0 Dn E (forL p b (ds.drop (i + 1)) Γ6) → ∀ σ H M, Ext T M1 H0 M H → Rs K mg T H0 M H Γ6 σ → i + 1 ≤ ds.length ∧ ∃ Γ M, Ext T M0 H0 M H ∧ Same M1 M ∧ Rs K mg T H0 M H Γ σ ∧ FinS K mg T M0 H0 Dn E (forL p b (ds.drop (i + 1)) Γ) := fun Γ6 f6 σ H M e r => ⟨hlt, Γ6, M, e1.reb e, e.mm, r, f6⟩
      cases qb : b Γ5 with
      | nx Γ6 =>
        rw [qb] at f3
        exact again Γ6 f3
      | ct Γ6 =>
        rw [qb] at f3
        exact again Γ6 f3
      | bk Γ6 =>
        rw [qb] at f3
        exact fun σ H M e r => f3 σ H M (e1.reb e) r
      | rt d =>
        rw [qb] at f3
        exact fun v H M e r => f3 v H M (e1.reb e) r
      | exc c =>
        rw [qb] at f3
        exact fun C H M e r => f3 C H M (e1.reb e) r
      | bad =>
        rw [qb] at f3
        exact f3
  · have ei : i = ds.length := by omega
    subst ei
    rw [List.drop_length] at f3
    exact .inl ⟨w.stops H3 (s3.trans r3.ms), f3 _ _ _ e3 r3⟩
theorem s_for {p : Pt} {tg iter : Expr} {body : List Stmt} {it : Env → Out (List D)} {b : Env → SO} {pos : Pos} (hp : PassesOwn (model X.prog X.w) X.A X.env X.xe) (hc : X.calm = true) (hi : PIm X T E tg iter it) (hg : PG X tg (gP X.K p)) (hb : PSsm X T E body b)
    (hs : ∀ x, foldedSetIterable iter X.env x = pure x := by intro _; rfl) : PSm X T E (.For tg iter body [] pos) (sFor p it b) := weakS (ps_for hp hc hi hg hb hs) fun _ _ _ h => tFor_of h

/-! ### while -/
def wStep (c : Env → Out Bool) (b : Env → SO) (Γ : Env) : Sum Env SO := match c Γ with
  | .ok true => (match b Γ with
    | .nx Γ2 => .inl Γ2
    | .ct Γ2 => .inl Γ2
    | .bk Γ2 => .inr (.nx Γ2)
    | .rt d => .inr (.rt d)
    | .exc c => .inr (.exc c)
    | .bad => .inr .bad)
  | .ok false => .inr (.nx Γ)
  | .exc c => .inr (.exc c)
  | .bad => .inr .bad
inductive WRun (c : Env → Out Bool) (b : Env → SO) : Nat → Env → SO → Prop
  | done {Γ : Env} {o : SO} : wStep c b Γ = .inr o → WRun c b 0 Γ o
  | next {n : Nat} {Γ Γ' : Env} {o : SO} : wStep c b Γ = .inl Γ' → WRun c b n Γ' o → WRun c b (n + 1) Γ o
theorem WRun.det {c : Env → Out Bool} {b : Env → SO} : ∀ {n m : Nat} {Γ : Env} {o o' : SO}, WRun c b n Γ o → WRun c b m Γ o' → o = o'
  | _, _, _, _, _, .done h, .done h' => by rw [h] at h'; cases h'; rfl
  | _, _, _, _, _, .done h, .next h' _ => by rw [h] at h'; cases h'
  | _, _, _, _, _, .next h _, .done h' => by rw [h] at h'; cases h'
  | _, _, _, _, _, .next h r, .next h' r' => by
    rw [h] at h'
    cases h'
    exact WRun.det r r'
open Classical in
noncomputable def sWhile (c : Env → Out Bool) (b : Env → SO) : Env → SO := fun Γ => if h : ∃ o n, WRun c b n Γ o then h.choose else .bad
theorem sWhile_run {c : Env → Out Bool} {b : Env → SO} {n : Nat} {Γ : Env} {o : SO} (h : WRun c b n Γ o) : sWhile c b Γ = o := by
  unfold sWhile
  have hx : ∃ o n, WRun c b n Γ o := ⟨o, n, h⟩
  rw [dif_pos hx]
  obtain ⟨m, hm⟩ := hx.choose_spec
  exact hm.det h
theorem sWhile_step {c : Env → Out Bool} {b : Env → SO} {Γ Γ' : Env} (h : wStep c b Γ = .inl Γ') : sWhile c b Γ = sWhile c b Γ' := by
  by_cases hx : ∃ o n, WRun c b n Γ' o
  · obtain ⟨o, n, r⟩ := hx
    rw [sWhile_run r, sWhile_run (WRun.next h r)]
  · have hy : ¬ ∃ o n, WRun c b n Γ o := fun ⟨o, n, r⟩ => by
      cases r with
      | done q => rw [h] at q; cases q
      | next q r =>
        rw [h] at q
        cases q
        exact hx ⟨_, _, r⟩
    unfold sWhile
    rw [dif_neg hx, dif_neg hy]
theorem sWhile_done {c : Env → Out Bool} {b : Env → SO} {Γ : Env} {o : SO} (h : wStep c b Γ = .inr o) : sWhile c b Γ = o := sWhile_run (WRun.done h)
theorem tWhile_of {c : Env → Out Bool} {b : Env → SO} {Dn : Ends} (h : sOf K mg T E (sWhile c b) Dn σ H) : tWhile (ttOf K mg T E c) (sOf K mg T E b) Dn σ H := by
  obtain ⟨Γ, M, M0, H0, e, r, f⟩ := h
  by_cases hx : ∃ o n, WRun c b n Γ o
  · obtain ⟨o, n, w⟩ := hx
    rw [sWhile_run w] at f
    refine ⟨fun m σ H => ∃ Γ M, Ext T M0 H0 M H ∧ Rs K mg T H0 M H Γ σ ∧ WRun c b m Γ o, ⟨n, Γ, M, e, r, w⟩, ?_⟩
    rintro m σ3 H3 ⟨Γ3, M3, e3, r3, w3⟩
    refine ⟨Γ3, M3, H0, r3, ?_⟩
    cases w3 with
    | done hw =>
      unfold wStep at hw
      cases hc : c Γ3 with
      | ok x =>
        rw [hc] at hw
        intro H4 M4 e4
        cases x with
        | true =>
          refine ⟨fun _ _ => False, fun _ _ z => z.elim, Γ3, M4, M0, H0, e3.trans e4, r3.ext e4, ?_⟩
          cases hb : b Γ3 with
          | nx Γ2 => rw [hb] at hw; cases hw
          | ct Γ2 => rw [hb] at hw; cases hw
          | bk Γ2 =>
            rw [hb] at hw
            cases hw
            exact f
          | rt d =>
            rw [hb] at hw
            cases hw
            exact f
          | exc c =>
            rw [hb] at hw
            cases hw
            exact f
          | bad =>
            rw [hb] at hw
            cases hw
            exact f
        | false =>
          cases hw
          exact f _ _ _ (e3.trans e4) (r3.ext e4)
      | exc x =>
        rw [hc] at hw
        cases hw
        exact fun C H4 M4 e4 q => f C H4 M4 (e3.trans e4) q
      | bad =>
        rw [hc] at hw
        cases hw
        exact f
    | @next n' _ Γ4 _ hw w4 =>
      unfold wStep at hw
      cases hc : c Γ3 with
      | ok x =>
        rw [hc] at hw
        intro H4 M4 e4
        cases x with
        | true =>
          refine ⟨fun σ H => ∃ Γ M, Ext T M0 H0 M H ∧ Rs K mg T H0 M H Γ σ ∧ WRun c b n' Γ o, fun σ' H' q => ⟨n', Nat.lt_succ_self _, q⟩, Γ3, M4, M0, H0, e3.trans e4, r3.ext e4, ?_⟩
          cases hb : b Γ3 with
          | nx Γ2 =>
            rw [hb] at hw
            cases hw
            exact fun σ H M e r => ⟨_, M, e, r, w4⟩
          | ct Γ2 =>
            rw [hb] at hw
            cases hw
            exact fun σ H M e r => ⟨_, M, e, r, w4⟩
          | bk Γ2 => rw [hb] at hw; cases hw
          | rt d => rw [hb] at hw; cases hw
          | exc c => rw [hb] at hw; cases hw
          | bad => rw [hb] at hw; cases hw
        | false => cases hw
      | exc x => rw [hc] at hw; cases hw
      | bad => rw [hc] at hw; cases hw
  · unfold sWhile at f
    rw [dif_neg hx] at f
    exact f.elim
theorem s_while {c : Expr} {body : List Stmt} {tc : Env → Out Bool} {b : Env → SO} {pos : Pos} (hp : PassesOwn (model X.prog X.w) X.A X.env X.xe) (hc : PTm X T E c tc) (hb : PSsm X T E body b) : PSm X T E (.While c body [] pos) (sWhile tc b) := weakS (ps_while hp hc hb) fun _ _ _ h => tWhile_of h

/-! ### comprehensions -/
/-- what a comprehension walks: from M1, H1 on nothing but new things -/
structure WkC (K : PySem.W.Frag) (mg : Str → Option Value) (T : List (Addr × Str)) (M1 H1 : Hp) (J : It) (ds : List D) : Prop where
  goes : ∀ i M H, i < ds.length → Ext T M1 H1 M H → J.go i H
  stops : ∀ M H, Ext T M1 H1 M H → J.stop ds.length H
  yields : ∀ i M2 H x H', i < ds.length → Ext T M1 H1 M2 H → J.yld i H x H' → ∃ d M3, ds[i]? = some d ∧ Ext T M2 H M3 H' ∧ Rp K mg M3 x d
theorem Wk.c {J : It} {ds : List D} (w : Wk K mg T M1 J ds) : WkC K mg T M1 H1 J ds :=
  ⟨fun i M H hi e => w.goes i H hi (e.mm.trans e.ms), fun M H e => w.stops H (e.mm.trans e.ms), fun i M2 H x H' hi e y => w.yields i M2 H x H' hi e.mm e.ms e.nt y⟩
def FinC (K : PySem.W.Frag) (mg : Str → Option Value) (T : List (Addr × Str)) (M H : Hp) (R : It → Hp → Prop) (E : XK) : Out (List D) → Prop
  | .ok ds => ∀ J H' M', Ext T M H M' H' → WkC K mg T M' H' J ds → R J H'
  | .exc c => ∀ C H' M', Ext T M H M' H' → mg c = some (.ref C) → E (.ref C) none H'
  | .bad => False
def iOfC (K : PySem.W.Frag) (mg : Str → Option Value) (T : List (Addr × Str)) (E : XK) (m : Env → Out (List D)) : TI := fun σ H R => ∃ Γ M H0, Rs K mg T H0 M H Γ σ ∧ FinC K mg T M H R E (m Γ)
abbrev PICm (X : Cx) (T : List (Addr × Str)) (E : XK) (tg e : Expr) (m : Env → Out (List D)) : Prop := PI X tg e (iOfC X.K X.mg T E m)
theorem i_c {tg e : Expr} {m : Env → Out (List D)} (h : PIm X T E tg e m) : PICm X T E tg e m := weakI h fun σ H R h => by
  obtain ⟨Γ, M, H0, r, f⟩ := h
  refine ⟨Γ, M, H0, r, ?_⟩
  cases q : m Γ with
  | ok ds =>
    rw [q] at f
    exact fun J H' M' e w => f J H' M' e w.c
  | exc c =>
    rw [q] at f
    exact f
  | bad =>
    rw [q] at f
    exact f
def compL (p : Pt) (c : Env → Out Bool) (elt : Env → Out D) (Γ : Env) : List D → Out (List D)
  | [] => .ok []
  | d :: ds => match bindP p d Γ with
    | none => .bad
    | some Γ1 => match c Γ1 with
      | .ok true => (match elt Γ1 with
        | .ok y => (match compL p c elt Γ ds with
          | .ok ys => .ok (y :: ys)
          | _ => .bad)
        | _ => .bad)
      | .ok false => compL p c elt Γ ds
      | _ => .bad
def mComp (vs : List Nat) (p : Pt) (it : Env → Out (List D)) (c : Env → Out Bool) (elt : Env → Out D) : Env → Out D := fun Γ => (it Γ).bind fun ds => match compL p c elt (wipeE Γ vs) ds with
  | .ok ys => dLst ys
  | _ => .bad
theorem FinC.bindE {Q : VK} {R : It → Hp → Prop} {o : Out (List D)} {f : List D → Out D} (h : Fin K mg T M H Q E (o.bind f))
    (k : ∀ ds J H1 M1, o = .ok ds → Ext T M H M1 H1 → WkC K mg T M1 H1 J ds → Fin K mg T M1 H1 Q E (f ds) → R J H1) : FinC K mg T M H R E o := by
  cases o with
  | ok d => exact fun J H1 M1 e r => k d J H1 M1 rfl e r (Fin.up h e)
  | exc c => exact h
  | bad => exact h
theorem wipe_set {σ : L2.St} {i : Nat} {x : Option V} : ∀ {vs : List Nat}, i ∈ vs → L2.wipe (σ.set i x) vs = L2.wipe σ vs
  | [], h => by cases h
  | v :: vs, h => by
    unfold L2.wipe
    by_cases e : i ∈ vs
    · rw [wipe_set e]
    · have ev : i = v := by
        rcases List.mem_cons.mp h with q | q
        · exact q
        · exact absurd q e
      subst ev
      have aux : ∀ ws : List Nat, i ∉ ws → L2.wipe (σ.set i x) ws = (L2.wipe σ ws).set i x := fun ws => by
        induction ws with
        | nil => intro _; rfl
        | cons w ws ih =>
          intro hw
          unfold L2.wipe
          rw [ih (fun z => hw (List.mem_cons_of_mem _ z)), List.set_comm]
          exact fun z => hw (by rw [z]; exact List.mem_cons_self)
      rw [aux vs e, List.set_set]
theorem wipe_setV : ∀ {is : List Nat} {us : List V} {σ : L2.St} {vs : List Nat}, (∀ i ∈ is, i ∈ vs) → L2.wipe (setV is us σ) vs = L2.wipe σ vs
  | [], [], _, _, _ => rfl
  | [], _ :: _, _, _, _ => rfl
  | _ :: _, [], _, _, _ => rfl
  | i :: is, u :: us, σ, vs, h => by
    show L2.wipe (setV is us (σ.set i (some u))) vs = _
    rw [wipe_setV (fun j hj => h j (List.mem_cons_of_mem _ hj)), wipe_set (h i List.mem_cons_self)]
theorem wipe_pt {p : Pt} {v : V} {us : List V} {σ : L2.St} {vs : List Nat} (h : ∀ i ∈ p.ix, i ∈ vs) : L2.wipe (ptS p v us σ) vs = L2.wipe σ vs := by
  cases p with
  | nm i => exact wipe_set (h i (List.mem_singleton.mpr rfl))
  | tp is => exact wipe_setV h
theorem wipe_wipe {σ : L2.St} : ∀ (vs : List Nat), L2.wipe (L2.wipe σ vs) vs = L2.wipe σ vs := fun vs => by
  have aux : ∀ (ws : List Nat) (σ' : L2.St), (∀ i ∈ ws, i ∈ vs) → L2.wipe (L2.wipe σ' ws) vs = L2.wipe σ' vs := fun ws => by
    induction ws with
    | nil => intro _ _; rfl
    | cons w ws ih =>
      intro σ' h
      show L2.wipe ((L2.wipe σ' ws).set w none) vs = _
      rw [wipe_set (h w List.mem_cons_self), ih σ' fun i hi => h i (List.mem_cons_of_mem _ hi)]
  exact aux vs σ fun i hi => hi
theorem tLc_of {vs : List Nat} {p : Pt} {it : Env → Out (List D)} {c : Env → Out Bool} {elt : Env → Out D} (hp : ∀ i ∈ p.ix, i ∈ vs) {Q : VK} (h : tOf K mg T E (mComp vs p it c elt) σ H Q) :
    tLc (iOfC K mg T E it) (gP K p) (ttOf K mg T E0 c) (tOf K mg T E0 elt) vs σ H Q := by
  obtain ⟨Γ, M, H0, r, f⟩ := h
  refine ⟨Γ, M, H0, r, FinC.bindE f fun ds J H1 M1 _ e1 w f1 => ?_⟩
  intro Da hD
  cases qc : compL p c elt (wipeE Γ vs) ds with
  | exc x =>
    rw [qc] at f1
    exact f1.elim
  | bad =>
    rw [qc] at f1
    exact f1.elim
  | ok ys =>
    rw [qc] at f1
    unfold dLst at f1
    by_cases hlen : ys.length ≤ LIM
    · have f1 : Fin K mg T M1 H1 Q E (if ys.length ≤ LIM then Out.ok (.lst ys) else .bad) := f1
      rw [if_pos hlen] at f1
      have rs1 := r.ext e1
      have mD : M1 Da = none := by
        cases q : M1 Da with
        | none => rfl
        | some u =>
          have z := rs1.ms _ _ q
          rw [hD] at z
          cases z
      have frD : Fr H1 Da := fun u hu => by rw [hD] at hu; cases hu
      -- H1, M1: the beginning; the new list is new
      refine ⟨fun i m H => m = ds.length - i ∧ i ≤ ds.length ∧ ∃ M acc done rest, Ext T M1 H1 M H ∧ H Da = some (.lst acc) ∧ M Da = none ∧ RpL K mg M acc done ∧ compL p c elt (wipeE Γ vs) (ds.drop i) = .ok rest ∧ done ++ rest = ys ∧ Tabs T H,
        ⟨ds.length, by simp, Nat.zero_le _, M1, [], [], ys, Ext.grow rs1.ms rs1.nt (same_upd hD), upd_same, mD, .nil, qc, rfl, rs1.tb.ext (same_upd hD)⟩, ?_⟩
      rintro i m H3 ⟨rfl, hi, M3, acc, done, rest, e3, hA, mA, rA, hc3, hy3, tb3⟩
      by_cases hlt : i < ds.length
      · have hd : ds.drop i = ds[i] :: ds.drop (i + 1) := List.drop_eq_getElem_cons hlt
        refine .inr ⟨w.goes i M3 H3 hlt e3, fun H => i + 1 ≤ ds.length ∧ ∃ M acc done rest, Ext T M1 H1 M H ∧ H Da = some (.lst acc) ∧ M Da = none ∧ RpL K mg M acc done ∧ compL p c elt (wipeE Γ vs) (ds.drop (i + 1)) = .ok rest ∧ done ++ rest = ys ∧ Tabs T H, fun H' ⟨hl, q⟩ => ⟨ds.length - (i + 1), by omega, rfl, hl, q⟩, fun x H4 y => ?_⟩
        obtain ⟨d, M4, hd4, e4, r4⟩ := w.yields i M3 H3 x H4 hlt e3 y
        have ed : d = ds[i] := by
          rw [List.getElem?_eq_getElem hlt] at hd4
          exact (Option.some.inj hd4).symm
        subst ed
        rw [hd] at hc3
        unfold compL at hc3
        have rw4 : Rs K mg T H0 M4 H4 (wipeE Γ vs) (L2.wipe σ vs) := ((rs1.wipe vs).ext (e3.trans e4))
        cases q : bindP p ds[i] (wipeE Γ vs) with
        | none =>
          rw [q] at hc3
          cases hc3
        | some Γ5 =>
          rw [q] at hc3
          refine gP_of rw4 r4 q fun us r5 => ?_
          refine ⟨by rw [wipe_pt hp, wipe_wipe], Γ5, M4, H0, r5, ?_⟩
          obtain ⟨mA4, hA4⟩ := e4.out mA hA (fun ps z => by cases z)
          cases q6 : c Γ5 with
          | exc x =>
            have hc3 : (match c Γ5 with
              | .ok true => (match elt Γ5 with
                | .ok y => (match compL p c elt (wipeE Γ vs) (ds.drop (i + 1)) with
                  | .ok ys => Out.ok (y :: ys)
                  | _ => .bad)
                | _ => .bad)
              | .ok false => compL p c elt (wipeE Γ vs) (ds.drop (i + 1))
              | _ => .bad) = .ok rest := hc3
            rw [q6] at hc3
            cases hc3
          | bad =>
            have hc3 : (match c Γ5 with
              | .ok true => (match elt Γ5 with
                | .ok y => (match compL p c elt (wipeE Γ vs) (ds.drop (i + 1)) with
                  | .ok ys => Out.ok (y :: ys)
                  | _ => .bad)
                | _ => .bad)
              | .ok false => compL p c elt (wipeE Γ vs) (ds.drop (i + 1))
              | _ => .bad) = .ok rest := hc3
            rw [q6] at hc3
            cases hc3
          | ok b =>
            have hc3 : (match c Γ5 with
              | .ok true => (match elt Γ5 with
                | .ok y => (match compL p c elt (wipeE Γ vs) (ds.drop (i + 1)) with
                  | .ok ys => Out.ok (y :: ys)
                  | _ => .bad)
                | _ => .bad)
              | .ok false => compL p c elt (wipeE Γ vs) (ds.drop (i + 1))
              | _ => .bad) = .ok rest := hc3
            rw [q6] at hc3
            intro H6 M6 e6
            obtain ⟨mA6, hA6⟩ := e6.out mA4 hA4 (fun ps z => by cases z)
            cases b with
            | false =>
              refine iteF ⟨hlt, M6, acc, done, rest, (e3.trans e4).trans e6, hA6, mA6, rA.mono (e4.mm.trans e6.mm), hc3, hy3, e6.tb (e4.tb tb3)⟩
            | true =>
              refine iteT ⟨Γ5, M6, H0, r5.ext e6, ?_⟩
              have hc3 : (match elt Γ5 with
                | .ok y => (match compL p c elt (wipeE Γ vs) (ds.drop (i + 1)) with
                  | .ok ys => Out.ok (y :: ys)
                  | _ => .bad)
                | _ => .bad) = .ok rest := hc3
              cases q7 : elt Γ5 with
              | exc x => rw [q7] at hc3; cases hc3
              | bad => rw [q7] at hc3; cases hc3
              | ok y =>
                rw [q7] at hc3
                have hc3 : (match compL p c elt (wipeE Γ vs) (ds.drop (i + 1)) with
                  | .ok ys => Out.ok (y :: ys)
                  | _ => .bad) = .ok rest := hc3
                cases q8 : compL p c elt (wipeE Γ vs) (ds.drop (i + 1)) with
                | exc x => rw [q8] at hc3; cases hc3
                | bad => rw [q8] at hc3; cases hc3
                | ok rest2 =>
                  rw [q8] at hc3
                  cases hc3
                  intro v H8 M8 e8 r8
                  obtain ⟨mA8, hA8⟩ := e8.out mA6 hA6 (fun ps z => by cases z)
                  refine ⟨acc, hA8, ?_, hlt, M8, acc ++ [v], done ++ [y], rest2, ?_, upd_same, mA8, ?_, rfl, by rw [List.append_assoc]; exact hy3, tabs_upd (e8.tb (e6.tb (e4.tb tb3))) hA8⟩
                  · rw [rA.length, sizeLine_eq]
                    have hz : (done ++ (y :: rest2)).length ≤ LIM := by rw [hy3]; exact hlen
                    rw [List.length_append, List.length_cons] at hz
                    unfold LIM at hz
                    omega
                  · exact (((e3.trans e4).trans e6).trans e8).mut mA8 hA8 frD
                  · exact (rA.mono ((e4.mm.trans e6.mm).trans e8.mm)).append (.cons r8 .nil)
      · have ei : i = ds.length := by omega
        subst ei
        rw [List.drop_length] at hc3
        cases hc3
        rw [List.append_nil] at hy3
        subst hy3
        refine .inl ⟨w.stops M3 H3 e3, ?_⟩
        -- the list is shared now
        have mm : Same M3 (upd M3 Da (.lst acc)) := same_upd mA
        refine f1 (.ref Da) H3 (upd M3 Da (.lst acc)) ⟨e3.kp, e3.tb, e3.mm.trans mm, fun b o hb => ?_, fun b ps hb => ?_, fun b o hb => ?_⟩ (.lst upd_same (rA.mono mm))
        · by_cases q : b = Da
          · subst q
            rw [upd_same] at hb
            rw [← hb]
            exact hA
          · rw [upd_ne q] at hb
            exact e3.ms b o hb
        · by_cases q : b = Da
          · subst q
            rw [upd_same] at hb
            cases hb
          · rw [upd_ne q] at hb
            exact e3.nt b ps hb
        · by_cases q : b = Da
          · subst q
            exact .inr frD
          · rw [upd_ne q] at hb
            exact e3.nw b o hb
    · have f1 : Fin K mg T M1 H1 Q E (if ys.length ≤ LIM then Out.ok (.lst ys) else .bad) := f1
      rw [if_neg hlen] at f1
      exact f1.elim
end FL
set_option Elab.async false
set_option linter.all false
set_option maxRecDepth 100000
set_option maxHeartbeats 2000000
namespace FL
open PySem PySem.Spec PyProof.Rows L2 LamX
variable {K : PySem.W.Frag} {mg : Str → Option Value} {T : List (Addr × Str)} {H0 M0 M M' M1 M2 H H' H1 H2 : Hp} {Γ Γ' : Env} {σ σ' : L2.St} {E : XK} {X : Cx}

/-! ### comprehensions -/
abbrev Blk (X : Cx) (scope : Scope) (s : Shared) (H : Hp) (C : Addr) (cl : List (Str × Addr)) (fp : List Addr) : Cx := X.blk s H scope (compEnvC scope cl C X.env) fp
abbrev PTsm (X : Cx) (T : List (Addr × Str)) (E : XK) (ifs : List Expr) (m : Env → Out Bool) : Prop := PTs X ifs (ttOf X.K X.mg T E m)
def tYesM : Env → Out Bool := fun _ => .ok true
theorem ts_nil : PTsm X T E [] tYesM := ⟨fun pins s σ H Q I h => by
  obtain ⟨Γ, M, H0, r, f⟩ := h
  exact pts_nil.run pins s σ H Q I (f H M r.ext0)⟩
theorem ts_one {c : Expr} {m : Env → Out Bool} (h : PTm X T E c m) : PTsm X T E [c] m := pts_one h
section
variable {elt tg iter : Expr} {ifs : List Expr} {scope : Scope} {own : List (Str × Nat)} {pos : Pos} {p : Pt} {it : Env → Out (List D)} {c : Env → Out Bool} {me : Env → Out D}
theorem e_lc (own : List (Str × Nat)) (p : Pt) (hc : X.calm = true) (hN : X.N.Nodup) (hi : PICm X T E tg iter it) (ok : BlkOk X.N X.env.scope scope own)
    (hg : ∀ (s : Shared) (H : Hp) (C : Addr) (cl : List (Str × Addr)) (fp : List Addr), PG (Blk X scope s H C cl fp) tg (gP X.K p)) (ht : ∀ (s : Shared) (H : Hp) (C : Addr) (cl : List (Str × Addr)) (fp : List Addr), PTsm (Blk X scope s H C cl fp) T E0 ifs c)
    (he : ∀ (s : Shared) (H : Hp) (C : Addr) (cl : List (Str × Addr)) (fp : List Addr), PEm (Blk X scope s H C cl fp) T E0 elt me) (hp : ∀ i ∈ p.ix, i ∈ own.map (·.2) := by decide) (hs : ∀ x, foldedSetIterable iter X.env x = pure x := by intro _; rfl) :
    PEm X T E (.ListComp elt [⟨tg, iter, ifs, 0⟩] scope pos) (mComp (own.map (·.2)) p it c me) :=
  weakE (pe_lc hc hN hi ok hg ht he hs) fun _ _ _ h => tLc_of hp h
theorem s_setLc (own : List (Str × Nat)) (p : Pt) {i : Nat} {y : Str} {py spos : Pos} (hc : X.calm = true) (hN : X.N.Nodup) (hy : X.N[i]? = some y) (hyl : X.env.scope.names.lookup y = some .local)
    (hsw : swapsWith (.ListComp elt [⟨tg, iter, ifs, 0⟩] scope pos) (some (.Name y py)) spos.line X.env = pure true) (hi : PICm X T E tg iter it) (ok : BlkOk X.N X.env.scope scope own)
    (hg : ∀ (s : Shared) (H : Hp) (C : Addr) (cl : List (Str × Addr)) (fp : List Addr), PG (Blk X scope s H C cl fp) tg (gP X.K p)) (ht : ∀ (s : Shared) (H : Hp) (C : Addr) (cl : List (Str × Addr)) (fp : List Addr), PTsm (Blk X scope s H C cl fp) T E0 ifs c)
    (he : ∀ (s : Shared) (H : Hp) (C : Addr) (cl : List (Str × Addr)) (fp : List Addr), PEm (Blk X scope s H C cl fp) T E0 elt me) (hp : ∀ i ∈ p.ix, i ∈ own.map (·.2) := by decide) (hs : ∀ x, foldedSetIterable iter X.env x = pure x := by intro _; rfl) :
    PSm X T E (.Assign [.Name y py] (.ListComp elt [⟨tg, iter, ifs, 0⟩] scope pos) spos) (sSet i (mComp (own.map (·.2)) p it c me)) :=
  weakS (ps_setLc hc hN hy hyl hsw hi ok hg ht he hs) fun Dn σ H h => by
    obtain ⟨Γ, M, M0, H0, e, r, f⟩ := h
    exact tLc_of hp ⟨Γ, M, H0, r, FinS.ofO e f fun d v H1 M1 e1 e2 r1 f1 => f1 _ H1 M1 e1 ((r.ext e2).set i r1)⟩
end

/-! ### defs and their calls -/
def spOf (K : PySem.W.Frag) (mg : Str → Option Value) (T : List (Addr × Str)) (n : Nat) (f : List D → Out D) : Sp := fun vs H Q E => vs.length = n ∧ Tabs T H ∧ ∃ M ds, Same M H ∧ (∀ a ps, M a ≠ some (.tbl ps)) ∧ RpL K mg M vs ds ∧ Fin K mg T M H Q E (f ds)
/-- the def that the name x stands for does f -/
def FnI (P : Program) (w : World) (K : PySem.W.Frag) (mg : Str → Option Value) (base : Heap) (T : List (Addr × Str)) (k : Nat) (x : Str) (n : Nat) (f : List D → Out D) : Prop :=
  ∃ (a : Addr) (fd : FuncData) (ps : List Str), mg x = some (.ref a) ∧ PySem.W.keepIn K (.ref a) = true ∧ Binds K fd ps [] ∧ FnOk P w K mg base (L2N.CX P w) k a fd ps (spOf K mg T n f)
theorem FnI.mono {P : Program} {w : World} {base : Heap} {j k : Nat} {x : Str} {n : Nat} {f : List D → Out D} (h : FnI P w K mg base T j x n f) (hj : j ≤ k) : FnI P w K mg base T k x n f := by
  obtain ⟨a, fd, ps, h1, h2, h3, h4⟩ := h
  exact ⟨a, fd, ps, h1, h2, h3, h4.mono hj⟩
/-- arguments in number -/
def arg (n : Nat) (f : List D → Out D) : List D → Out D := fun ds => if ds.length = n then f ds else .bad
theorem e_call {x : Str} {n k : Nat} {f : List D → Out D} {e : Expr} {es : List Expr} {ms : Env → Out (List D)} {p pos : Pos} (F : FnI X.prog X.w X.K X.mg X.base T k x n f) (hr : Room k X.A) (hx : Passes (L2N.CX X.prog X.w) X E) (hg : Gl X x)
    (ha : PAm X T E (e :: es) ms) (hl : (e :: es).length = n := by rfl) (hdb : (x == ("__debug__" : Str)) = false := by decide) (he : starEach (e :: es) X.env = (false, eval e X.env) :: starEach es X.env := by rfl) (hpl : (backTo pos (starEach es X.env)).any (·.1) = false := by rfl) :
    PEm X T E (.Call (.Name x p) (e :: es) [] pos) (mN (arg n f) ms) := by
  obtain ⟨a, fd, ps, h1, h2, h3, h4⟩ := F
  refine weakE (pe_call h4 hr hg h1 h2 h3 .nil hx ha hdb he hpl) fun σ H Q h => ?_
  obtain ⟨Γ, M, H0, r, f0⟩ := h
  refine ⟨Γ, M, H0, r, FinA.bindE f0 fun d v H1 M1 _ e1 r1 f1 => ?_⟩
  have rs := r.ext e1
  unfold arg at f1
  by_cases hn : d.length = n
  · rw [if_pos hn] at f1
    have hv : v ++ [] = v := List.append_nil v
    show spOf _ _ _ _ _ (v ++ []) _ _ _
    rw [hv]
    exact ⟨by rw [r1.length]; exact hn, rs.tb, M1, d, rs.ms, rs.nt, r1, f1⟩
  · rw [if_neg hn] at f1
    exact f1.elim
/-- what a body makes of its arguments; k more names -/
def defM (n k : Nat) (m : Env → SO) : List D → Out D := fun ds => match m (ds.map (fun d => some (.dat d)) ++ List.replicate k none) with
  | .rt d => .ok d
  | .nx _ => .ok .non
  | .exc c => .exc c
  | _ => .bad
theorem Rs.start {vs : List V} {ds : List D} {N : List Str} (ms : Same M H) (nt : ∀ a ps, M a ≠ some (.tbl ps)) (tb : Tabs T H) (r : RpL K mg M vs ds) : Rs K mg T H M H (ds.map (fun d => some (.dat d)) ++ List.replicate (N.length - vs.length) none) (L2.start N vs) where
  ms := ms
  nt := nt
  tb := tb
  len := by simp [L2.start, r.length]
  dat := fun i d h => by
    by_cases hi : i < ds.length
    · rw [List.getElem?_append_left (by simpa using hi), List.getElem?_map] at h
      cases q : ds[i]? with
      | none => rw [q] at h; cases h
      | some d' =>
        rw [q] at h
        cases h
        obtain ⟨v, h1, h2⟩ := r.get q
        refine ⟨v, ?_, h2⟩
        unfold L2.start
        rw [List.getElem?_append_left (by rw [List.length_map, r.length]; exact hi), List.getElem?_map, h1]
        rfl
    · rw [List.getElem?_append_right (by simpa using hi), List.getElem?_replicate] at h
      split at h <;> cases h
  own := fun i ds' h => by
    by_cases hi : i < ds.length
    · rw [List.getElem?_append_left (by simpa using hi), List.getElem?_map] at h
      cases q : ds[i]? with
      | none => rw [q] at h; cases h
      | some d' => rw [q] at h; cases h
    · rw [List.getElem?_append_right (by simpa using hi), List.getElem?_replicate] at h
      split at h <;> cases h
  inj := fun i j ds' es a h _ _ _ => by
    exfalso
    by_cases hi : i < ds.length
    · rw [List.getElem?_append_left (by simpa using hi), List.getElem?_map] at h
      cases q : ds[i]? with
      | none => rw [q] at h; cases h
      | some d' => rw [q] at h; cases h
    · rw [List.getElem?_append_right (by simpa using hi), List.getElem?_replicate] at h
      split at h <;> cases h
  dct := fun i ks h => by
    by_cases hi : i < ds.length
    · rw [List.getElem?_append_left (by simpa using hi), List.getElem?_map] at h
      cases q : ds[i]? with
      | none => rw [q] at h; cases h
      | some d' => rw [q] at h; cases h
    · rw [List.getElem?_append_right (by simpa using hi), List.getElem?_replicate] at h
      split at h <;> cases h
  djn := fun i j ks ls a h _ _ _ => by
    exfalso
    by_cases hi : i < ds.length
    · rw [List.getElem?_append_left (by simpa using hi), List.getElem?_map] at h
      cases q : ds[i]? with
      | none => rw [q] at h; cases h
      | some d' => rw [q] at h; cases h
    · rw [List.getElem?_append_right (by simpa using hi), List.getElem?_replicate] at h
      split at h <;> cases h
theorem body_of {N : List Str} {vs : List V} {n : Nat} {m : Env → SO} {Q : VK} (h : spOf K mg T n (defM n (N.length - n) m) vs H Q E) : sOf K mg T E m { nx := fun _ H' => Q .non H', rt := Q } (L2.start N vs) H := by
  obtain ⟨hn, tb, M, ds, ms, nt, r, f⟩ := h
  have rs := Rs.start (N := N) ms nt tb r
  refine ⟨_, M, M, H, Ext.refl ms nt, rs, ?_⟩
  rw [hn]
  unfold defM at f
  cases q : m (ds.map (fun d => some (.dat d)) ++ List.replicate (N.length - n) none) with
  | nx Γ =>
    rw [q] at f
    exact fun σ H M e r => f .non H M e .non
  | rt d =>
    rw [q] at f
    exact f
  | exc c =>
    rw [q] at f
    exact f
  | bk Γ =>
    rw [q] at f
    exact f.elim
  | ct Γ =>
    rw [q] at f
    exact f.elim
  | bad =>
    rw [q] at f
    exact f.elim
/-- THE RULE for a def -/
theorem def_ok {P : Program} {w : World} {base : Heap} {x : Str} {params : Arguments} {body : List Stmt} {scope : Scope} {a : Addr} {fd : FuncData} {N ps : List Str} {k : Nat} {m : Env → SO} (n : Nat) (F : FunD K x x params body scope [] [] a fd) (S : FnScope N ps scope) (hn : ps.length = n) (hg : mg x = some (.ref a))
    (hb : ∀ (kV doc pm : Value) (an : Option Addr) (cdv ct : Value) (us : List Value), us.length = ps.length → bindArgs (PySem.W.fnOf x x params body scope .none kV doc pm an cdv ct) ⟨us, []⟩ = pure (ps.zip us))
    (hbody : ∀ (cdv : Value) (A : Around) (outer : List PySem.Env) (s : Shared) (H : Hp) (E : XK), Room k (A.deeper (envOfC x scope s.heap.objs.size a cdv)) →
      PSsm (cxOf (L2N.CX P w) P w K mg base N x scope a cdv A outer s H E) T E body m) : FnI P w K mg base T (k + 1) x n (defM n (N.length - n) m) := by
  refine ⟨a, fd, ps, hg, F.kp, F.bindsN hb, F.ok S (fun vs H Q E h => h.1.trans hn.symm) fun cdv A outer s H vs Q E hr h => ⟨_, hbody cdv A outer s H E hr, body_of h⟩⟩

/-- a def that is never called -/
theorem FnI.bad {P : Program} {w : World} {base : Heap} {x : Str} {params : Arguments} {body : List Stmt} {scope : Scope} {a : Addr} {fd : FuncData} {ps : List Str} {k n : Nat} (F : FunD K x x params body scope [] [] a fd) (hg : mg x = some (.ref a)) (hn : ps.length = n)
    (hb : ∀ (kV doc pm : Value) (an : Option Addr) (cdv ct : Value) (us : List Value), us.length = ps.length → bindArgs (PySem.W.fnOf x x params body scope .none kV doc pm an cdv ct) ⟨us, []⟩ = pure (ps.zip us)) : FnI P w K mg base T k x n (fun _ => .bad) :=
  ⟨a, fd, ps, hg, F.kp, F.bindsN hb, ⟨fun vs H Q E h => h.1.trans hn.symm, fun A outer s H args us vs Q E hr e0 hb hv h => by
    obtain ⟨_, _, _, _, _, _, _, h⟩ := h
    exact h.elim⟩⟩
/-! ### raise -/
theorem takesE {x : Str} {P : Program} {w : World} {base : Heap} {N : List Str} {scope : Scope} {a : Addr} {cdv : Value} {A : Around} {outer : List PySem.Env} {s : Shared} {H : Hp} {E : XK} :
    L2N.Takes (cxOf (L2N.CX P w) P w K mg base N x scope a cdv A outer s H E) (fun cls d _ H => E cls d H) := L2N.takes_of rfl rfl rfl rfl
theorem passE {x : Str} {P : Program} {w : World} {base : Heap} {N : List Str} {scope : Scope} {a : Addr} {cdv : Value} {A : Around} {outer : List PySem.Env} {s : Shared} {H : Hp} {E : XK} :
    Passes (L2N.CX P w) (cxOf (L2N.CX P w) P w K mg base N x scope a cdv A outer s H E) E := L2N.passes_call takesE fun _ _ _ _ h => h
theorem passN {X : Cx} : Passes (L2N.CX X.prog X.w) X E0 := fun _ _ _ _ _ _ _ h => by
  obtain ⟨_, _, _, _, _, _, _, _, _, _, _, _, z⟩ := h
  exact z.elim
/-- the class of the name x is an own exception over ValueError -/
structure ExI (K : PySem.W.Frag) (mg : Str → Option Value) (x : Str) : Prop where
  ex : ∃ C, mg x = some (.ref C) ∧ PySem.W.excIn K C [.type "ValueError", .type "Exception", .type "BaseException", .type "object"] "ValueError.__new__" = true ∧ PySem.W.keepIn K (.ref C) = true ∧
    PySem.W.subIn K (.ref C) (.type "BaseException") = some true ∧ PySem.W.typeIn K (.ref C) = some (.type "type")
def sRaise (x : Str) : Env → SO := fun _ => .exc x
/-- the class has own bases of the program in between -/
structure ExI2 (K : PySem.W.Frag) (mg : Str → Option Value) (x : Str) : Prop where
  ex : ∃ C bm, mg x = some (.ref C) ∧ PySem.W.excIn K C bm "ValueError.__new__" = true ∧ PySem.W.keepIn K (.ref C) = true ∧
    PySem.W.subIn K (.ref C) (.type "BaseException") = some true ∧ PySem.W.typeIn K (.ref C) = some (.type "type")
end FL
set_option Elab.async false
set_option linter.all false
set_option maxRecDepth 100000
set_option maxHeartbeats 2000000
namespace FL
open PySem PySem.Spec PyProof.Rows L2 LamX
variable {K : PySem.W.Frag} {mg : Str → Option Value} {T : List (Addr × Str)} {H0 M0 M M' M1 M2 H H' H1 H2 : Hp} {Γ Γ' : Env} {σ σ' : L2.St} {E : XK} {X : Cx}

theorem s_raise {x m : Str} {j : Nat} {p p2 pos pos' : Pos} (F : ExI X.K X.mg x) (tk : L2N.Takes X (fun cls d _ H => E cls d H)) (hc : X.calm = true) (hg : Gl X x) (hdb : (x == ("__debug__" : Str)) = false := by decide) :
    PSm X T E (.Raise (some (.Call (.Name x p) [.Constant (.str m) j p2] [] pos')) none pos) (sRaise x) := by
  obtain ⟨C, h1, h2, h3, h4, h5⟩ := F.ex
  refine weakS (L2N.ps_raise hc tk (L2N.pmk_own PySem.F.excBase_ValueError h2 h1 h3 (raises_own h4 h5) hg hdb)) fun Dn σ H h => ?_
  obtain ⟨Γ, M, M0, H0, e, r, f⟩ := h
  exact f C H M e h1

/-! ### data as the library has it; == -/
mutual
def D.py : D → PyData
  | .non => .none
  | .bl b => .bool b
  | .int i => .int i
  | .str x => .str x
  | .lst xs => .list (D.pyL xs)
  | .tup xs => .tuple (D.pyL xs)
  | .fn _ => .none
  | .ty _ => .none
  | .scr ns => .list (ns.map .int)
  | .opq _ => .none
def D.pyL : List D → List PyData
  | [] => []
  | x :: xs => x.py :: D.pyL xs
end
def gd : Nat → D → Bool
  | _, .non => true
  | _, .bl _ => true
  | _, .int _ => true
  | _, .str x => PyData.strOk x
  | n + 1, .lst xs => xs.all (gd n)
  | n + 1, .tup xs => xs.all (gd n)
  | _ + 1, .scr _ => true
  | _, _ => false
theorem ints_dp : ∀ ns : List Int, DpAll K H (ns.map V.int) (ns.map PyData.int)
  | [] => .nil
  | n :: ns => .cons (.int n) (ints_dp ns)
mutual
theorem Rp.dp (s : Same M H) : ∀ {n : Nat} {d : D} {v : V}, Rp K mg M v d → gd n d = true → Dp K H v d.py
  | _, _, _, .non, _ => by unfold D.py; exact .non
  | _, _, _, .bl b, _ => by unfold D.py; exact .bl b
  | _, _, _, .int i, _ => by unfold D.py; exact .int i
  | _, _, _, .str x, _ => by unfold D.py; exact .str x
  | 0, _, _, .lst h r, g => by cases g
  | n + 1, .lst ds, _, .lst h r, g => by
    unfold D.py
    exact .lst (SqL.of (s _ _ h)) (RpL.dp s r (by unfold gd at g; exact g))
  | 0, _, _, .tup h r, g => by cases g
  | n + 1, .tup ds, _, .tup h r, g => by
    unfold D.py
    exact .tup (same_sqT s h) (RpL.dp s r (by unfold gd at g; exact g))
  | 0, _, _, .fn h, g => by cases g
  | _ + 1, _, _, .fn h, g => by cases g
  | 0, _, _, .ty h, g => by cases g
  | _ + 1, _, _, .ty h, g => by cases g
  | 0, _, _, .opq _, g => by cases g
  | _ + 1, _, _, .opq _, g => by cases g
  | 0, _, _, .scr h, g => by cases g
  | _ + 1, _, _, .scr h, g => by
    unfold D.py
    exact .lst (s.seq h) (ints_dp _)
theorem RpL.dp (s : Same M H) : ∀ {n : Nat} {ds : List D} {vs : List V}, RpL K mg M vs ds → ds.all (gd n) = true → DpAll K H vs (D.pyL ds)
  | _, _, _, .nil, _ => by unfold D.pyL; exact .nil
  | n, d :: ds, _, .cons h r, g => by
    unfold D.pyL
    rw [List.all_cons, Bool.and_eq_true] at g
    exact .cons (Rp.dp s h g.1) (RpL.dp s r g.2)
end
theorem lay_ints : ∀ ns : List Int, PyData.canLayAll0 (ns.map PyData.int) = true ∧ PyData.depthAll (ns.map PyData.int) = 0
  | [] => by simp [PyData.canLayAll0, PyData.depthAll]
  | n :: ns => by
    have h := lay_ints ns
    simp [PyData.canLayAll0, PyData.depthAll, PyData.canLay0, PyData.depth, h.1, h.2]
mutual
theorem gd_lay : ∀ {n : Nat} {d : D}, gd n d = true → d.py.canLay0 = true ∧ d.py.depth ≤ n
  | _, .non, _ => by simp [D.py, PyData.canLay0, PyData.depth]
  | _, .bl b, _ => by simp [D.py, PyData.canLay0, PyData.depth]
  | _, .int i, _ => by simp [D.py, PyData.canLay0, PyData.depth]
  | n, .str x, g => by
    have g : PyData.strOk x = true := by cases n <;> exact g
    simp [D.py, PyData.canLay0, PyData.depth, g]
  | 0, .lst _, g => by cases g
  | 0, .tup _, g => by cases g
  | n + 1, .lst xs, g => by
    have h := gd_layL (n := n) (ds := xs) (by unfold gd at g; exact g)
    simp only [D.py, PyData.canLay0, PyData.depth]
    exact ⟨h.1, Nat.succ_le_succ h.2⟩
  | n + 1, .tup xs, g => by
    have h := gd_layL (n := n) (ds := xs) (by unfold gd at g; exact g)
    simp only [D.py, PyData.canLay0, PyData.depth]
    exact ⟨h.1, Nat.succ_le_succ h.2⟩
  | 0, .fn _, g => by cases g
  | 0, .ty _, g => by cases g
  | 0, .scr _, g => by cases g
  | 0, .opq _, g => by cases g
  | _ + 1, .opq _, g => by cases g
  | _ + 1, .fn _, g => by cases g
  | _ + 1, .ty _, g => by cases g
  | n + 1, .scr ns, g => by
    have h := lay_ints ns
    simp only [D.py, PyData.canLay0, PyData.depth]
    exact ⟨h.1, by omega⟩
theorem gd_layL : ∀ {n : Nat} {ds : List D}, ds.all (gd n) = true → PyData.canLayAll0 (D.pyL ds) = true ∧ PyData.depthAll (D.pyL ds) ≤ n
  | _, [], _ => by simp [D.pyL, PyData.canLayAll0, PyData.depthAll]
  | n, d :: ds, g => by
    rw [List.all_cons, Bool.and_eq_true] at g
    have h1 := gd_lay g.1
    have h2 := gd_layL g.2
    simp only [D.pyL, PyData.canLayAll0, PyData.depthAll, h1.1, h2.1]
    exact ⟨rfl, by omega⟩
end
theorem gd_shaped {d : D} (g : gd 8 d = true) : SeqAt.shaped d.py = true := by
  have h := gd_lay g
  unfold SeqAt.shaped
  rw [h.1, decide_eq_true (by omega)]
  rfl
def eqv (a b : D) : Bool := PyData.eqv a.py b.py
def dEq (a b : D) : Out D := if (gd 8 a && gd 8 b) = true then .ok (.bl (eqv a b)) else .bad
def dNe (a b : D) : Out D := if (gd 8 a && gd 8 b) = true then .ok (.bl (!eqv a b)) else .bad
theorem dEq_ok {a b d : D} (h : dEq a b = .ok d) : gd 8 a = true ∧ gd 8 b = true ∧ d = .bl (eqv a b) := by
  unfold dEq at h
  by_cases g : (gd 8 a && gd 8 b) = true
  · rw [if_pos g] at h
    cases h
    rw [Bool.and_eq_true] at g
    exact ⟨g.1, g.2, rfl⟩
  · rw [if_neg g] at h
    cases h
theorem dNe_ok {a b d : D} (h : dNe a b = .ok d) : gd 8 a = true ∧ gd 8 b = true ∧ d = .bl (!eqv a b) := by
  unfold dNe at h
  by_cases g : (gd 8 a && gd 8 b) = true
  · rw [if_pos g] at h
    cases h
    rw [Bool.and_eq_true] at g
    exact ⟨g.1, g.2, rfl⟩
  · rw [if_neg g] at h
    cases h
theorem od_eq : OpD K mg T (rEqD K) dEq := fun x y dx dy M H Q d s nt rx ry h q => by
  obtain ⟨g1, g2, rfl⟩ := dEq_ok h
  exact ⟨dx.py, dy.py, rx.dp s g1, ry.dp s g2, gd_shaped g1, gd_shaped g2, q _ _ _ (Ext.refl s nt) (.bl _)⟩
theorem od_ne : OpD K mg T (rNeD K) dNe := fun x y dx dy M H Q d s nt rx ry h q => by
  obtain ⟨g1, g2, rfl⟩ := dNe_ok h
  exact ⟨dx.py, dy.py, rx.dp s g1, ry.dp s g2, gd_shaped g1, gd_shaped g2, q _ _ _ (Ext.refl s nt) (.bl _)⟩
theorem nx_eq : noX dEq := fun a b c h => by
  unfold dEq at h
  split at h <;> cases h
theorem nx_ne : noX dNe := fun a b c h => by
  unfold dNe at h
  split at h <;> cases h

/-! ### whole numbers -/
def i2 (C : Int → Int → Bool) (g : Int → Int → D) : D → D → Out D
  | .int i, .int j => if C i j = true then .ok (g i j) else .bad
  | _, _ => .bad
theorem i2_ok {C : Int → Int → Bool} {g : Int → Int → D} {a b d : D} (h : i2 C g a b = .ok d) : ∃ i j, a = .int i ∧ b = .int j ∧ C i j = true ∧ d = g i j := by
  unfold i2 at h
  split at h
  · split at h
    · cases h
      exact ⟨_, _, rfl, rfl, by assumption, rfl⟩
    · cases h
  · cases h
theorem nx_i2 {C : Int → Int → Bool} {g : Int → Int → D} : noX (i2 C g) := fun a b c h => by
  unfold i2 at h
  split at h
  · split at h <;> cases h
  · cases h
theorem od_I {C : Int → Int → Prop} {C' : Int → Int → Bool} {g : Int → Int → V} {g' : Int → Int → D} (hC : ∀ i j, C' i j = true → C i j) (hg : ∀ i j M, Rp K mg M (g i j) (g' i j)) : OpD K mg T (rI C g) (i2 C' g') := fun x y dx dy M H Q d s nt rx ry h q => by
  obtain ⟨i, j, rfl, rfl, c, rfl⟩ := i2_ok h
  cases rx
  cases ry
  exact ⟨i, j, rfl, rfl, hC i j c, q _ _ _ (Ext.refl s nt) (hg i j M)⟩
theorem od_I0 {g : Int → Int → V} {g' : Int → Int → D} (hg : ∀ i j M, Rp K mg M (g i j) (g' i j)) : OpD K mg T (rI0 g) (i2 (fun _ _ => true) g') := fun x y dx dy M H Q d s nt rx ry h q => by
  obtain ⟨i, j, rfl, rfl, c, rfl⟩ := i2_ok h
  cases rx
  cases ry
  exact ⟨i, j, rfl, rfl, q _ _ _ (Ext.refl s nt) (hg i j M)⟩
def dSub : D → D → Out D := i2 (fun _ _ => true) fun i j => .int (i - j)
def dLtI : D → D → Out D := i2 (fun _ _ => true) fun i j => .bl (decide (i < j))
def dLe : D → D → Out D := i2 (fun _ _ => true) fun i j => .bl (decide (i ≤ j))
def dGt : D → D → Out D := i2 (fun _ _ => true) fun i j => .bl (decide (j < i))
def dGe : D → D → Out D := i2 (fun _ _ => true) fun i j => .bl (decide (j ≤ i))
def dAndI : D → D → Out D := i2 (fun _ _ => true) fun i j => .int (Builtin.bitAnd i j)
def dXorI : D → D → Out D := i2 (fun _ _ => true) fun i j => .int (Builtin.bitXor i j)
def dMod : D → D → Out D := i2 (fun _ j => decide (0 < j)) fun i j => .int (i % j)
def small (i : Int) : Bool := decide (i.natAbs < 2 ^ 4096)
def dDiv : D → D → Out D := i2 (fun _ j => decide (0 < j) && small j) fun i j => .int (i / j)
def dPow : D → D → Out D := i2 (fun i j => decide (0 ≤ j) && (decide (j ≤ 1000000) && decide (i.natAbs < 2 ^ 64))) fun i j => .int (i ^ j.toNat)
def dShl : D → D → Out D := i2 (fun i j => decide (0 ≤ j) && (decide (j ≤ 1000000) && decide (i.natAbs < 2 ^ 64))) fun i j => .int (i * 2 ^ j.toNat)
theorem od_sub : OpD K mg T (rI0 fun i j => .int (i - j)) dSub := od_I0 fun i j M => .int _
theorem od_ltI : OpD K mg T (rI0 fun i j => .bl (decide (i < j))) dLtI := od_I0 fun i j M => .bl _
theorem od_le : OpD K mg T (rI0 fun i j => .bl (decide (i ≤ j))) dLe := od_I0 fun i j M => .bl _
theorem od_gt : OpD K mg T (rI0 fun i j => .bl (decide (j < i))) dGt := od_I0 fun i j M => .bl _
theorem od_ge : OpD K mg T (rI0 fun i j => .bl (decide (j ≤ i))) dGe := od_I0 fun i j M => .bl _
theorem od_and : OpD K mg T (rI0 fun i j => .int (Builtin.bitAnd i j)) dAndI := od_I0 fun i j M => .int _
theorem od_xor : OpD K mg T (rI0 fun i j => .int (Builtin.bitXor i j)) dXorI := od_I0 fun i j M => .int _
theorem od_mod : OpD K mg T (rI (fun _ j => 0 < j) fun i j => .int (i % j)) dMod := od_I (fun i j h => of_decide_eq_true h) fun i j M => .int _
theorem od_div : OpD K mg T (rI CDivW fun i j => .int (i / j)) dDiv := od_I (fun i j h => by
  rw [Bool.and_eq_true] at h
  exact wide_div (of_decide_eq_true h.1) (of_decide_eq_true h.2) (by omega) (by omega)) fun i j M => .int _
theorem od_pow : OpD K mg T (rI CPow fun i j => .int (i ^ j.toNat)) dPow := od_I (fun i j h => by
  rw [Bool.and_eq_true, Bool.and_eq_true] at h
  exact ⟨of_decide_eq_true h.1, of_decide_eq_true h.2.1, of_decide_eq_true h.2.2⟩) fun i j M => .int _
theorem od_shl : OpD K mg T (rI CPow fun i j => .int (i * 2 ^ j.toNat)) dShl := od_I (fun i j h => by
  rw [Bool.and_eq_true, Bool.and_eq_true] at h
  exact ⟨of_decide_eq_true h.1, of_decide_eq_true h.2.1, of_decide_eq_true h.2.2⟩) fun i j M => .int _

/-! ### +, * -/
def dAdd : D → D → Out D
  | .int i, .int j => .ok (.int (i + j))
  | .lst xs, .lst ys => if xs.length + ys.length ≤ LIM then .ok (.lst (xs ++ ys)) else .bad
  | .tup xs, .tup ys => if xs.length + ys.length ≤ LIM then .ok (.tup (xs ++ ys)) else .bad
  | _, _ => .bad
theorem nx_add : noX dAdd := fun a b c h => by
  unfold dAdd at h
  split at h
  · cases h
  · split at h <;> cases h
  · split at h <;> cases h
  · cases h
def rAddA (K : PySem.W.Frag) : R2 := fun x y H Q => rI0 (fun i j => .int (i + j)) x y H Q ∨ (rCat x y H Q ∨ rCatA K x y H Q)
theorem op_addA : OpR X (binaryOp .Add) (rAddA X.K) := op_add.or (op_cat.or op_catA)
theorem newLst {p : Addr} {vs : List V} {ds : List D} (hp : H p = none) (s : Same M H) (nt : ∀ a ps, M a ≠ some (.tbl ps)) (r : RpL K mg M vs ds) : ∃ M', Ext T M H M' (upd H p (.lst vs)) ∧ Rp K mg M' (.ref p) (.lst ds) := by
  have e := Ext.new (T := T) s nt hp (o := .lst vs) (fun ps z => by cases z)
  exact ⟨_, e, .lst upd_same (r.mono e.mm)⟩
theorem newTup {p : Addr} {vs : List V} {ds : List D} (hp : H p = none) (s : Same M H) (nt : ∀ a ps, M a ≠ some (.tbl ps)) (r : RpL K mg M vs ds) : ∃ M', Ext T M H M' (upd H p (.tup vs)) ∧ Rp K mg M' (.ref p) (.tup ds) := by
  have e := Ext.new (T := T) s nt hp (o := .tup vs) (fun ps z => by cases z)
  exact ⟨_, e, .tup (SqT.of upd_same) (r.mono e.mm)⟩
theorem od_add : OpD K mg T (rAddA K) dAdd := fun x y dx dy M H Q d s nt rx ry h q => by
  cases rx with
  | int i =>
    cases ry with
    | int j =>
      cases h
      exact .inl ⟨i, j, rfl, rfl, q _ _ _ (Ext.refl s nt) (.int _)⟩
    | _ => cases h
  | @lst a vs xs ha ra =>
    cases ry with
    | @lst b ws ys hb rb =>
      have h : (if xs.length + ys.length ≤ LIM then Out.ok (.lst (xs ++ ys)) else .bad) = .ok d := h
      by_cases hl : xs.length + ys.length ≤ LIM
      · rw [if_pos hl] at h
        cases h
        refine .inr (.inl ⟨a, b, vs, ws, rfl, rfl, s _ _ ha, s _ _ hb, by rw [ra.length, rb.length]; exact lim_line hl, fun p hp => ?_⟩)
        obtain ⟨M', e, r⟩ := newLst (T := T) hp s nt (ra.append rb)
        exact q _ _ _ e r
      · rw [if_neg hl] at h
        cases h
    | _ => cases h
  | @tup a vs xs ha ra =>
    cases ry with
    | @tup b ws ys hb rb =>
      have h : (if xs.length + ys.length ≤ LIM then Out.ok (.tup (xs ++ ys)) else .bad) = .ok d := h
      by_cases hl : xs.length + ys.length ≤ LIM
      · rw [if_pos hl] at h
        cases h
        refine .inr (.inr ⟨a, b, vs, ws, rfl, rfl, same_sqT s ha, same_sqT s hb, by rw [ra.length, rb.length]; exact lim_line hl, fun ex => ?_, fun _ ey => ?_, fun _ _ p hp => ?_⟩)
        · subst ex
          cases ra
          exact q _ _ _ (Ext.refl s nt) (.tup hb rb)
        · subst ey
          cases rb
          rw [List.append_nil] at q
          exact q _ _ _ (Ext.refl s nt) (.tup ha ra)
        · obtain ⟨M', e, r⟩ := newTup (T := T) hp s nt (ra.append rb)
          exact q _ _ _ e r
      · rw [if_neg hl] at h
        cases h
    | _ => cases h
  | _ => cases ry <;> cases h
def mulOk (i j : Int) : Bool := (decide (i.natAbs < 2 ^ 64) || decide (j.natAbs < 2 ^ 64)) || (small i && small j)
def dMul : D → D → Out D
  | .int i, .int j => if mulOk i j = true then .ok (.int (i * j)) else .bad
  | .lst xs, .int k => if 0 ≤ k ∧ k ≤ 1000 ∧ xs.length * k.toNat ≤ LIM then .ok (.lst (List.replicate k.toNat xs).flatten) else .bad
  | .tup xs, .int k => if xs ≠ [] ∧ 2 ≤ k ∧ k ≤ 1000 ∧ xs.length ≤ 1000 then .ok (.tup (List.replicate k.toNat xs).flatten) else .bad
  | _, _ => .bad

theorem nx_mul : noX dMul := fun a b c h => by
  unfold dMul at h
  split at h
  · split at h <;> cases h
  · split at h <;> cases h
  · split at h <;> cases h
  · cases h
def rMulA (K : PySem.W.Frag) : R2 := fun x y H Q => (rI CMul (fun i j => .int (i * j)) x y H Q ∨ rI CMulW (fun i j => .int (i * j)) x y H Q) ∨ (rRep x y H Q ∨ rRepT K x y H Q)
theorem op_mulA : OpR X (binaryOp .Mult) (rMulA X.K) := (op_mul.or op_mulW).or (op_rep.or op_repT)
theorem replicate_rp {n : Nat} {vs : List V} {ds : List D} (r : RpL K mg M vs ds) : RpL K mg M (List.replicate n vs).flatten (List.replicate n ds).flatten := by
  induction n with
  | zero => exact .nil
  | succ n ih =>
    rw [List.replicate_succ, List.replicate_succ, List.flatten_cons, List.flatten_cons]
    exact r.append ih
theorem od_mul : OpD K mg T (rMulA K) dMul := fun x y dx dy M H Q d s nt rx ry h q => by
  cases rx with
  | int i =>
    cases ry with
    | int j =>
      have h : (if mulOk i j = true then Out.ok (.int (i * j)) else .bad) = .ok d := h
      by_cases hm : mulOk i j = true
      · rw [if_pos hm] at h
        cases h
        unfold mulOk at hm
        rw [Bool.or_eq_true, Bool.or_eq_true, Bool.and_eq_true] at hm
        have fin : Q (.int (i * j)) H := q _ _ _ (Ext.refl s nt) (.int _)
        rcases hm with (hm | hm) | ⟨h1, h2⟩
        · have := of_decide_eq_true hm
          exact .inl (.inl ⟨i, j, rfl, rfl, .inl ⟨by omega, by omega⟩, fin⟩)
        · have := of_decide_eq_true hm
          exact .inl (.inl ⟨i, j, rfl, rfl, .inr ⟨by omega, by omega⟩, fin⟩)
        · exact .inl (.inr ⟨i, j, rfl, rfl, wide_mul (of_decide_eq_true h1) (of_decide_eq_true h2) (by omega) (by omega) (by omega), fin⟩)
      · rw [if_neg hm] at h
        cases h
    | _ => cases h
  | @lst a vs xs ha ra =>
    cases ry with
    | int k =>
      have h : (if 0 ≤ k ∧ k ≤ 1000 ∧ xs.length * k.toNat ≤ LIM then Out.ok (.lst (List.replicate k.toNat xs).flatten) else .bad) = .ok d := h
      by_cases hl : 0 ≤ k ∧ k ≤ 1000 ∧ xs.length * k.toNat ≤ LIM
      · rw [if_pos hl] at h
        cases h
        refine .inr (.inl ⟨a, k, vs, rfl, rfl, s _ _ ha, by omega, by omega, by rw [ra.length]; exact lim_line hl.2.2, fun p hp => ?_⟩)
        obtain ⟨M', e, r⟩ := newLst (T := T) hp s nt (replicate_rp (n := k.toNat) ra)
        exact q _ _ _ e r
      · rw [if_neg hl] at h
        cases h
    | _ => cases h
  | @tup a vs xs ha ra =>
    cases ry with
    | int k =>
      have h : (if xs ≠ [] ∧ 2 ≤ k ∧ k ≤ 1000 ∧ xs.length ≤ 1000 then Out.ok (.tup (List.replicate k.toNat xs).flatten) else .bad) = .ok d := h
      by_cases hl : xs ≠ [] ∧ 2 ≤ k ∧ k ≤ 1000 ∧ xs.length ≤ 1000
      · rw [if_pos hl] at h
        cases h
        refine .inr (.inr ⟨a, k, vs, rfl, rfl, same_sqT s ha, fun z => ?_, hl.2.1, hl.2.2.1, by rw [ra.length]; exact hl.2.2.2, fun p hp => ?_⟩)
        · subst z
          cases ra
          exact hl.1 rfl
        obtain ⟨M', e, r⟩ := newTup (T := T) hp s nt (replicate_rp (n := k.toNat) ra)
        exact q _ _ _ e r
      · rw [if_neg hl] at h
        cases h
    | _ => cases h
  | _ => cases ry <;> cases h

/-! ### items -/
def dIx : D → D → Out D
  | .lst xs, .int i => (match atI xs i with
    | some d => .ok d
    | none => .bad)
  | .tup xs, .int i => (match atI xs i with
    | some d => .ok d
    | none => .bad)
  | .scr ns, .int i => (match atI ns i with
    | some d => .ok (.int d)
    | none => .bad)
  | _, _ => .bad
theorem nx_ix : noX dIx := fun a b c h => by
  unfold dIx at h
  split at h
  · split at h <;> cases h
  · split at h <;> cases h
  · split at h <;> cases h
  · cases h
theorem atI_rp {vs : List V} {ds : List D} {i : Int} {d : D} (r : RpL K mg M vs ds) (h : atI ds i = some d) : ∃ v, atI vs i = some v ∧ Rp K mg M v d := by
  unfold atI at h ⊢
  rw [r.length]
  cases q : ixN ds.length i with
  | none => rw [q] at h; cases h
  | some j =>
    rw [q] at h
    exact r.get h
theorem atI_map {α β : Type} {f : α → β} {xs : List α} {i : Int} {x : α} (h : atI xs i = some x) : atI (xs.map f) i = some (f x) := by
  unfold atI at h ⊢
  rw [List.length_map]
  cases q : ixN xs.length i with
  | none => rw [q] at h; cases h
  | some j =>
    rw [q] at h
    show (xs.map f)[j]? = _
    rw [List.getElem?_map, show xs[j]? = some x from h]
    rfl
theorem od_ix : OpD K mg T (rIx K) dIx := fun x y dx dy M H Q d s nt rx ry h q => by
  cases rx with
  | @lst a vs xs ha ra =>
    cases ry with
    | int i =>
      cases e : atI xs i with
      | none =>
        have h : (match atI xs i with | some d => Out.ok d | none => .bad) = .ok d := h
        rw [e] at h
        cases h
      | some z =>
        have h : (match atI xs i with | some d => Out.ok d | none => .bad) = .ok d := h
        rw [e] at h
        cases h
        obtain ⟨v, h1, h2⟩ := atI_rp ra e
        exact .inl ⟨a, vs, i, v, rfl, rfl, SqL.of (s _ _ ha), h1, q _ _ _ (Ext.refl s nt) h2⟩
    | _ => cases h
  | @tup a vs xs ha ra =>
    cases ry with
    | int i =>
      cases e : atI xs i with
      | none =>
        have h : (match atI xs i with | some d => Out.ok d | none => .bad) = .ok d := h
        rw [e] at h
        cases h
      | some z =>
        have h : (match atI xs i with | some d => Out.ok d | none => .bad) = .ok d := h
        rw [e] at h
        cases h
        obtain ⟨v, h1, h2⟩ := atI_rp ra e
        exact .inr (.inl ⟨a, vs, i, v, rfl, rfl, same_sqT s ha, h1, q _ _ _ (Ext.refl s nt) h2⟩)
    | _ => cases h
  | @scr a ns ha =>
    cases ry with
    | int i =>
      cases e : atI ns i with
      | none =>
        have h : (match atI ns i with | some d => Out.ok (D.int d) | none => .bad) = .ok d := h
        rw [e] at h
        cases h
      | some z =>
        have h : (match atI ns i with | some d => Out.ok (D.int d) | none => .bad) = .ok d := h
        rw [e] at h
        cases h
        exact .inl ⟨a, _, i, .int z, rfl, rfl, s.seq ha, atI_map e, q _ _ _ (Ext.refl s nt) (.int z)⟩
    | _ => cases h
  | _ => cases ry <;> cases h
theorem e_ix {a b : Expr} {ma mb : Env → Out D} {pos : Pos} (ha : PEm X T E a ma) (hb : PEm X T E b mb) (hs : PlainIx b) : PEm X T E (.Subscript a b pos) (m2 dIx ma mb) :=
  weakE (pe_ix ix_seq ha hb hs) fun _ _ _ h => tOp_of od_ix nx_ix h
/-! ### slices -/
abbrev TOm := Env → Out (Option Int)
def oNone : TOm := fun _ => .ok none
def oSome (m : Env → Out D) : TOm := fun Γ => (m Γ).bind fun d => match d with
  | .int i => .ok (some i)
  | _ => .bad
def FinO (mg : Str → Option Value) (T : List (Addr × Str)) (M H : Hp) (Q : Option Int → Hp → Prop) (E : XK) : Out (Option Int) → Prop
  | .ok b => ∀ H' M', Ext T M H M' H' → Q b H'
  | .exc c => ∀ C H' M', Ext T M H M' H' → mg c = some (.ref C) → E (.ref C) none H'
  | .bad => False
def toOf (K : PySem.W.Frag) (mg : Str → Option Value) (T : List (Addr × Str)) (E : XK) (m : TOm) : TO := fun σ H Q => ∃ Γ M H0, Rs K mg T H0 M H Γ σ ∧ FinO mg T M H Q E (m Γ)
theorem weakO {e : Option Expr} {t t' : TO} (h : PO X e t) (w : ∀ σ H Q, t' σ H Q → t σ H Q) : PO X e t' := ⟨fun pins s σ H Q I q => h.run pins s σ H Q I (w σ H Q q)⟩
abbrev POm (X : Cx) (T : List (Addr × Str)) (E : XK) (e : Option Expr) (m : TOm) : Prop := PO X e (toOf X.K X.mg T E m)
theorem o_none : POm X T E none oNone := weakO po_none fun σ H Q h => by
  obtain ⟨Γ, M, H0, r, f⟩ := h
  exact f H M r.ext0
theorem o_some {e : Expr} {m : Env → Out D} (h : PEm X T E e m) : POm X T E (some e) (oSome m) := weakO (po_some h) fun σ H Q h => by
  obtain ⟨Γ, M, H0, r, f⟩ := h
  refine ⟨Γ, M, H0, r, ?_⟩
  unfold oSome at f
  cases q : m Γ with
  | ok d =>
    rw [q] at f
    intro v H' M' e r1
    cases r1 with
    | int i => exact ⟨i, rfl, f H' M' e⟩
    | _ => exact f.elim
  | exc c =>
    rw [q] at f
    exact f
  | bad =>
    rw [q] at f
    exact f.elim
def cutD (xs : List D) (lo hi : Option Int) : List D := (xs.drop (HT.sIx xs.length 0 lo)).take (HT.sIx xs.length xs.length hi - HT.sIx xs.length 0 lo)
def dSl (d : D) (lo hi : Option Int) : Out D := match d with
  | .lst xs => .ok (.lst (cutD xs lo hi))
  | .tup xs => .ok (.tup (cutD xs lo hi))
  | _ => .bad
def mSl (m : Env → Out D) (lo hi : TOm) : Env → Out D := fun Γ => (m Γ).bind fun d => (lo Γ).bind fun l => (hi Γ).bind fun h => dSl d l h
theorem FinO.bindE {Q : VK} {Q' : Option Int → Hp → Prop} {o : Out (Option Int)} {f : Option Int → Out D} (h : Fin K mg T M H Q E (o.bind f))
    (k : ∀ d H1 M1, o = .ok d → Ext T M H M1 H1 → Fin K mg T M1 H1 Q E (f d) → Q' d H1) : FinO mg T M H Q' E o := by
  cases o with
  | ok d => exact fun H1 M1 e => k d H1 M1 rfl e (Fin.up h e)
  | exc c => exact h
  | bad => exact h
theorem cut_rp {vs : List V} {ds : List D} {lo hi : Option Int} (r : RpL K mg M vs ds) : RpL K mg M (cutV vs lo hi) (cutD ds lo hi) := by
  unfold cutV cutD
  rw [r.length]
  exact (r.drop _).take _
def rSlLT (K : PySem.W.Frag) : V → Option Int → Option Int → Hp → VK → Prop := fun x lo hi H Q => rSlL K x lo hi H Q ∨ rSlA K x lo hi H Q
theorem sl_lt : SlR X (rSlLT X.K) := by
  intro pins s σ H x v vl vu lo hi sl Q I rx hs pl pu h
  rcases h with h | h
  · exact sl_list pins s σ H x v vl vu lo hi sl Q I rx hs pl pu h
  · exact sl_tupA pins s σ H x v vl vu lo hi sl Q I rx hs pl pu h
theorem sIx_whole {xs : List D} {lo hi : Option Int} (h : HT.sIx xs.length 0 lo = 0 ∧ HT.sIx xs.length xs.length hi = xs.length) : cutD xs lo hi = xs := by
  unfold cutD
  rw [h.1, h.2]
  simp
theorem tSl_of {m : Env → Out D} {lo hi : TOm} {Q : VK} (h : tOf K mg T E (mSl m lo hi) σ H Q) : tSl (rSlLT K) (tOf K mg T E m) (toOf K mg T E lo) (toOf K mg T E hi) σ H Q := by
  obtain ⟨Γ, M, H0, r, f⟩ := h
  refine ⟨Γ, M, H0, r, Fin.bind f fun d v H1 M1 _ e1 r1 f1 => ?_⟩
  refine ⟨Γ, M1, H0, r.ext e1, FinO.bindE f1 fun l H2 M2 _ e2 f2 => ?_⟩
  refine ⟨Γ, M2, H0, (r.ext e1).ext e2, FinO.bindE f2 fun u H3 M3 _ e3 f3 => ?_⟩
  have rs := ((r.ext e1).ext e2).ext e3
  have r1 := r1.mono (e2.mm.trans e3.mm)
  cases r1 with
  | lst ha ra =>
    refine .inl ⟨_, _, rfl, SqL.of (rs.ms _ _ ha), fun p hp => ?_⟩
    obtain ⟨M', e, rr⟩ := newLst (T := T) hp rs.ms rs.nt (cut_rp (lo := l) (hi := u) ra)
    exact f3 _ _ _ e rr
  | @tup a vs xs ha ra =>
    refine .inr ⟨_, _, rfl, same_sqT rs.ms ha, fun hw => ?_, fun _ p hp => ?_⟩
    · rw [ra.length] at hw
      have f3 : Fin K mg T M3 H3 Q E (.ok (.tup (cutD xs l u))) := f3
      rw [sIx_whole hw] at f3
      exact f3 _ _ _ rs.ext0 (.tup ha ra)
    · obtain ⟨M', e, rr⟩ := newTup (T := T) hp rs.ms rs.nt (cut_rp (lo := l) (hi := u) ra)
      exact f3 _ _ _ e rr
  | _ => exact f3.elim
theorem e_slice {a : Expr} {lo hi : Option Expr} {m : Env → Out D} {ml mh : TOm} {p1 pos : Pos} (ha : PEm X T E a m) (hl : POm X T E lo ml) (hh : POm X T E hi mh) :
    PEm X T E (.Subscript a (.Slice lo hi none p1) pos) (mSl m ml mh) := weakE (pe_slice sl_lt ha hl hh) fun _ _ _ h => tSl_of h
/-- xs[::-1] -/
def dRev : D → Out D
  | .lst xs => .ok (.lst xs.reverse)
  | _ => .bad
theorem e_rev {e : Expr} {m : Env → Out D} {k : Nat} {p1 p2 p3 pos : Pos} (h : PEm X T E e m) : PEm X T E (.Subscript e (.Slice none none (some (.UnaryOp .USub (.Constant (.int 1) k p1) p2)) p3) pos) (m1 dRev m) :=
  weakE (pe_revL h) fun σ H Q h => by
    obtain ⟨Γ, M, H0, r, f⟩ := h
    refine ⟨Γ, M, H0, r, Fin.bind f fun d v H1 M1 _ e1 r1 f1 => ?_⟩
    have rs := r.ext e1
    cases r1 with
    | lst ha ra =>
      refine ⟨_, _, rfl, SqL.of (rs.ms _ _ ha), fun p hp => ?_⟩
      obtain ⟨M', e, rr⟩ := newLst (T := T) hp rs.ms rs.nt ra.reverse
      exact f1 _ _ _ e rr
    | _ => exact f1.elim
end FL
set_option Elab.async false
set_option linter.all false
set_option maxRecDepth 100000
set_option maxHeartbeats 2000000
namespace FL
open PySem PySem.Spec PyProof.Rows L2 LamX
variable {K : PySem.W.Frag} {mg : Str → Option Value} {T : List (Addr × Str)} {H0 M0 M M' M1 M2 H H' H1 H2 : Hp} {Γ Γ' : Env} {σ σ' : L2.St} {E : XK} {X : Cx}

/-- a built-in of one argument -/
def c1 (f : D → Out D) : List D → Out D
  | [d] => f d
  | _ => .bad
theorem cd_1 {r : List V → Hp → VK → Prop} {f : D → Out D} (h : ∀ x dx M H Q d, Same M H → (∀ a ps, M a ≠ some (.tbl ps)) → Rp K mg M x dx → f dx = .ok d → (∀ v H' M', Ext T M H M' H' → Rp K mg M' v d → Q v H') → r [x] H Q) : CallD K mg T r (c1 f) := fun xs ds M H Q d s nt rx hf q => by
  cases rx with
  | nil => cases hf
  | cons h1 t1 =>
    cases t1 with
    | nil => exact h _ _ M H Q d s nt h1 hf q
    | cons _ _ => cases hf
theorem nx_c1 {f : D → Out D} (h : ∀ d c, f d ≠ .exc c) : noXN (c1 f) := fun xs c q => by
  unfold c1 at q
  split at q
  · exact h _ _ q
  · cases q
def noX1 (f : D → Out D) : Prop := ∀ d c, f d ≠ .exc c
/-- .. of two -/
def c2 (f : D → D → Out D) : List D → Out D
  | [a, b] => f a b
  | _ => .bad
theorem cd_2 {r : List V → Hp → VK → Prop} {f : D → D → Out D} (h : ∀ x y dx dy M H Q d, Same M H → (∀ a ps, M a ≠ some (.tbl ps)) → Rp K mg M x dx → Rp K mg M y dy → f dx dy = .ok d → (∀ v H' M', Ext T M H M' H' → Rp K mg M' v d → Q v H') → r [x, y] H Q) : CallD K mg T r (c2 f) := fun xs ds M H Q d s nt rx hf q => by
  cases rx with
  | nil => cases hf
  | cons h1 t1 =>
    cases t1 with
    | nil => cases hf
    | cons h2 t2 =>
      cases t2 with
      | nil => exact h _ _ _ _ M H Q d s nt h1 h2 hf q
      | cons _ _ => cases hf
theorem nx_c2 {f : D → D → Out D} (h : noX f) : noXN (c2 f) := fun xs c q => by
  unfold c2 at q
  split at q
  · exact h _ _ _ q
  · cases q
/-! ### len -/
def dLen : D → Out D
  | .lst xs => .ok (.int (xs.length : Nat))
  | .tup xs => .ok (.int (xs.length : Nat))
  | .scr ns => .ok (.int (ns.length : Nat))
  | _ => .bad
theorem cd_len : CallD K mg T (fun xs H Q => ∃ p ys, xs = [V.ref p] ∧ (SqL K H p ys ∨ SqT K H p ys) ∧ Q (.int ys.length) H) (c1 dLen) := cd_1 fun x dx M H Q d s nt rx hf q => by
  cases rx with
  | lst ha ra =>
    cases hf
    refine ⟨_, _, rfl, .inl (SqL.of (s _ _ ha)), ?_⟩
    rw [ra.length]
    exact q _ _ _ (Ext.refl s nt) (.int _)
  | tup ha ra =>
    cases hf
    refine ⟨_, _, rfl, .inr (same_sqT s ha), ?_⟩
    rw [ra.length]
    exact q _ _ _ (Ext.refl s nt) (.int _)
  | scr ha =>
    cases hf
    refine ⟨_, _, rfl, .inl (s.seq ha), ?_⟩
    rw [List.length_map]
    exact q _ _ _ (Ext.refl s nt) (.int _)
  | _ => cases hf
theorem nx_len : noX1 dLen := fun d c h => by cases d <;> cases h
/-! ### isinstance -/
def tyN : D → Option String
  | .non => some "NoneType"
  | .bl _ => some "bool"
  | .int _ => some "int"
  | .str _ => some "str"
  | .lst _ => some "list"
  | .tup _ => some "tuple"
  | _ => none
def isiB (a b : String) : Option Bool := match b with
  | "int" => some (a == "int" || a == "bool")
  | "bool" => some (a == "bool")
  | "tuple" => some (a == "tuple")
  | "list" => some (a == "list")
  | _ => none
def dIsi : D → D → Out D
  | x, .ty n => (match tyN x with
    | some a => (match isiB a n with
      | some b => .ok (.bl b)
      | none => .bad)
    | none => .bad)
  | _, _ => .bad
theorem tyX_sqT {a : Addr} {xs : List V} (h : SqT K H a xs) : TyX K H (.ref a) (.type "tuple") := by
  rcases h with (h | ⟨o, h⟩) | ⟨o, its, n, h1, h2, _⟩
  · exact .base (.tup h)
  · exact .fTuple h
  · exact .kTuple h1 h2
theorem cd_isi : CallD K mg T (rIsi K) (c2 dIsi) := cd_2 fun x y dx dy M H Q d s nt rx ry hf q => by
  cases ry with
  | ty n =>
    have fin : ∀ (a : String) (b : Bool), TyX K H x (.type a) → isiB a n = some b → kitB a n = some b → d = .bl b → rIsi K [x, .ty n] H Q := fun a b h1 h2 h3 h4 => by
      subst h4
      exact ⟨x, .ty n, .type a, .type n, b, rfl, .ty n, h1, kit_ty h3, q _ _ _ (Ext.refl s nt) (.bl b)⟩
    have kit : ∀ a b, (a = "NoneType" ∨ a = "bool" ∨ a = "int" ∨ a = "str" ∨ a = "list" ∨ a = "tuple") → isiB a n = some b → kitB a n = some b := fun a b ha h => by
      unfold isiB at h
      split at h
      · cases h
        rcases ha with rfl | rfl | rfl | rfl | rfl | rfl <;> decide +kernel
      · cases h
        rcases ha with rfl | rfl | rfl | rfl | rfl | rfl <;> decide +kernel
      · cases h
        rcases ha with rfl | rfl | rfl | rfl | rfl | rfl <;> decide +kernel
      · cases h
        rcases ha with rfl | rfl | rfl | rfl | rfl | rfl <;> decide +kernel
      · cases h
    have go : ∀ a, tyN dx = some a → TyX K H x (.type a) → (a = "NoneType" ∨ a = "bool" ∨ a = "int" ∨ a = "str" ∨ a = "list" ∨ a = "tuple") → rIsi K [x, .ty n] H Q := fun a h1 h2 h3 => by
      have hf : (match tyN dx with
        | some a => (match isiB a n with
          | some b => Out.ok (D.bl b)
          | none => .bad)
        | none => .bad) = .ok d := hf
      rw [h1] at hf
      cases hb : isiB a n with
      | none =>
        have hf : (match isiB a n with
          | some b => Out.ok (D.bl b)
          | none => .bad) = .ok d := hf
        rw [hb] at hf
        cases hf
      | some b =>
        have hf : (match isiB a n with
          | some b => Out.ok (D.bl b)
          | none => .bad) = .ok d := hf
        rw [hb] at hf
        cases hf
        exact fin a b h2 hb (kit a b h3 hb) rfl
    cases rx with
    | non => exact go "NoneType" rfl (.base .non) (.inl rfl)
    | bl b => exact go "bool" rfl (.base (.bl b)) (.inr (.inl rfl))
    | int i => exact go "int" rfl (.base (.int i)) (.inr (.inr (.inl rfl)))
    | str z => exact go "str" rfl (.base (.str z)) (.inr (.inr (.inr (.inl rfl))))
    | lst ha ra => exact go "list" rfl (.base (.lst (s _ _ ha))) (.inr (.inr (.inr (.inr (.inl rfl)))))
    | tup ha ra => exact go "tuple" rfl (tyX_sqT (same_sqT s ha)) (.inr (.inr (.inr (.inr (.inr rfl)))))
    | _ => cases hf
  | _ => cases hf
theorem nx_isi : noX dIsi := fun a b c h => by
  unfold dIsi at h
  split at h
  · split at h
    · split at h <;> cases h
    · cases h
  · cases h
/-! ### abs, int, list, tuple -/
def dAbs : D → Out D
  | .int i => .ok (.int (if i < 0 then -i else i))
  | _ => .bad
theorem cd_abs : CallD K mg T (fun xs H Q => ∃ i, xs = [V.int i] ∧ Q (.int (if i < 0 then -i else i)) H) (c1 dAbs) := cd_1 fun x dx M H Q d s nt rx hf q => by
  cases rx with
  | int i =>
    cases hf
    exact ⟨i, rfl, q _ _ _ (Ext.refl s nt) (.int _)⟩
  | _ => cases hf
theorem nx_abs : noX1 dAbs := fun d c h => by cases d <;> cases h
def dInt : D → Out D
  | .int i => .ok (.int i)
  | .bl b => .ok (.int (if b then 1 else 0))
  | _ => .bad
theorem cd_int : CallD K mg T (fun xs H Q => (∃ i, xs = [V.int i] ∧ Q (.int i) H) ∨ ∃ k, xs = [V.bl k] ∧ Q (.int (if k then 1 else 0)) H) (c1 dInt) := cd_1 fun x dx M H Q d s nt rx hf q => by
  cases rx with
  | int i =>
    cases hf
    exact .inl ⟨i, rfl, q _ _ _ (Ext.refl s nt) (.int _)⟩
  | bl b =>
    cases hf
    exact .inr ⟨b, rfl, q _ _ _ (Ext.refl s nt) (.int _)⟩
  | _ => cases hf
theorem nx_int : noX1 dInt := fun d c h => by cases d <;> cases h
def dList : D → Out D
  | .lst xs => .ok (.lst xs)
  | .tup xs => .ok (.lst xs)
  | _ => .bad
theorem cd_list : CallD K mg T (fun xs H Q => ∃ p ys, xs = [V.ref p] ∧ (SqL K H p ys ∨ SqT K H p ys) ∧ ∀ l, H l = none → Q (.ref l) (upd H l (.lst ys))) (c1 dList) := cd_1 fun x dx M H Q d s nt rx hf q => by
  cases rx with
  | lst ha ra =>
    cases hf
    refine ⟨_, _, rfl, .inl (SqL.of (s _ _ ha)), fun p hp => ?_⟩
    obtain ⟨M', e, rr⟩ := newLst (T := T) hp s nt ra
    exact q _ _ _ e rr
  | tup ha ra =>
    cases hf
    refine ⟨_, _, rfl, .inr (same_sqT s ha), fun p hp => ?_⟩
    obtain ⟨M', e, rr⟩ := newLst (T := T) hp s nt ra
    exact q _ _ _ e rr
  | _ => cases hf
theorem nx_list : noX1 dList := fun d c h => by cases d <;> cases h
def dTuple : D → Out D
  | .lst xs => .ok (.tup xs)
  | .tup xs => .ok (.tup xs)
  | _ => .bad
theorem cd_tuple : CallD K mg T (fun xs H Q => ∃ p ys, xs = [V.ref p] ∧ ((SqL K H p ys ∧ ∀ l, H l = none → Q (.ref l) (upd H l (.tup ys))) ∨ (SqT K H p ys ∧ Q (.ref p) H))) (c1 dTuple) := cd_1 fun x dx M H Q d s nt rx hf q => by
  cases rx with
  | lst ha ra =>
    cases hf
    refine ⟨_, _, rfl, .inl ⟨SqL.of (s _ _ ha), fun p hp => ?_⟩⟩
    obtain ⟨M', e, rr⟩ := newTup (T := T) hp s nt ra
    exact q _ _ _ e rr
  | tup ha ra =>
    cases hf
    exact ⟨_, _, rfl, .inr ⟨same_sqT s ha, q _ _ _ (Ext.refl s nt) (.tup ha ra)⟩⟩
  | _ => cases hf
theorem nx_tuple : noX1 dTuple := fun d c h => by cases d <;> cases h
/-! ### lists of whole numbers, of truths -/
def toInts : List D → Option (List Int)
  | [] => some []
  | .int i :: ds => (toInts ds).map (i :: ·)
  | _ => none
def toBools : List D → Option (List Bool)
  | [] => some []
  | .bl i :: ds => (toBools ds).map (i :: ·)
  | _ => none
theorem toInts_map : ∀ ns : List Int, toInts (ns.map D.int) = some ns
  | [] => rfl
  | n :: ns => by simp [toInts, toInts_map ns]
theorem toBools_map : ∀ ns : List Bool, toBools (ns.map D.bl) = some ns
  | [] => rfl
  | n :: ns => by simp [toBools, toBools_map ns]
theorem toInts_rp : ∀ {ds : List D} {vs : List V} {ns : List Int}, RpL K mg M vs ds → toInts ds = some ns → vs = ns.map V.int
  | _, _, ns, .nil, h => by cases h; rfl
  | .int i :: ds, _, ns, .cons (.int _) r, h => by
    unfold toInts at h
    cases q : toInts ds with
    | none => rw [q] at h; cases h
    | some ms =>
      rw [q] at h
      cases h
      rw [toInts_rp r q]
      rfl
  | .non :: _, _, _, .cons .non _, h => by cases h
  | .bl _ :: _, _, _, .cons (.bl _) _, h => by cases h
  | .str _ :: _, _, _, .cons (.str _) _, h => by cases h
  | .lst _ :: _, _, _, .cons (.lst _ _) _, h => by cases h
  | .tup _ :: _, _, _, .cons (.tup _ _) _, h => by cases h
  | .fn _ :: _, _, _, .cons (.fn _) _, h => by cases h
  | .ty _ :: _, _, _, .cons (.ty _) _, h => by cases h
  | .scr _ :: _, _, _, .cons (.scr _) _, h => by cases h
  | .opq _ :: _, _, _, .cons (.opq _) _, h => by cases h
theorem toBools_rp : ∀ {ds : List D} {vs : List V} {ns : List Bool}, RpL K mg M vs ds → toBools ds = some ns → vs = ns.map V.bl
  | _, _, ns, .nil, h => by cases h; rfl
  | .bl i :: ds, _, ns, .cons (.bl _) r, h => by
    unfold toBools at h
    cases q : toBools ds with
    | none => rw [q] at h; cases h
    | some ms =>
      rw [q] at h
      cases h
      rw [toBools_rp r q]
      rfl
  | .non :: _, _, _, .cons .non _, h => by cases h
  | .int _ :: _, _, _, .cons (.int _) _, h => by cases h
  | .str _ :: _, _, _, .cons (.str _) _, h => by cases h
  | .lst _ :: _, _, _, .cons (.lst _ _) _, h => by cases h
  | .tup _ :: _, _, _, .cons (.tup _ _) _, h => by cases h
  | .fn _ :: _, _, _, .cons (.fn _) _, h => by cases h
  | .ty _ :: _, _, _, .cons (.ty _) _, h => by cases h
  | .scr _ :: _, _, _, .cons (.scr _) _, h => by cases h
  | .opq _ :: _, _, _, .cons (.opq _) _, h => by cases h
def onInts (f : List Int → Out D) : D → Out D
  | .lst xs => (match toInts xs with
    | some ns => f ns
    | none => .bad)
  | _ => .bad
def onBools (f : List Bool → Out D) : D → Out D
  | .lst xs => (match toBools xs with
    | some ns => f ns
    | none => .bad)
  | _ => .bad
theorem onInts_map {f : List Int → Out D} {ns : List Int} : onInts f (.lst (ns.map D.int)) = f ns := by
  show (match toInts (ns.map D.int) with | some ns => f ns | none => .bad) = f ns
  rw [toInts_map]
theorem onBools_map {f : List Bool → Out D} {ns : List Bool} : onBools f (.lst (ns.map D.bl)) = f ns := by
  show (match toBools (ns.map D.bl) with | some ns => f ns | none => .bad) = f ns
  rw [toBools_map]
theorem cd_ints {r : List V → Hp → VK → Prop} {f : List Int → Out D} (h : ∀ a ns M H Q d, Same M H → (∀ a ps, M a ≠ some (.tbl ps)) → M a = some (.lst (ns.map V.int)) → f ns = .ok d → (∀ v H' M', Ext T M H M' H' → Rp K mg M' v d → Q v H') → r [.ref a] H Q) : CallD K mg T r (c1 (onInts f)) := cd_1 fun x dx M H Q d s nt rx hf q => by
  cases rx with
  | @lst a vs xs ha ra =>
    have hf : (match toInts xs with | some ns => f ns | none => .bad) = .ok d := hf
    cases e : toInts xs with
    | none => rw [e] at hf; cases hf
    | some ns =>
      rw [e] at hf
      have ev := toInts_rp ra e
      subst ev
      exact h a ns M H Q d s nt ha hf q
  | _ => cases hf
theorem cd_bools {r : List V → Hp → VK → Prop} {f : List Bool → Out D} (h : ∀ a ns M H Q d, Same M H → (∀ a ps, M a ≠ some (.tbl ps)) → M a = some (.lst (ns.map V.bl)) → f ns = .ok d → (∀ v H' M', Ext T M H M' H' → Rp K mg M' v d → Q v H') → r [.ref a] H Q) : CallD K mg T r (c1 (onBools f)) := cd_1 fun x dx M H Q d s nt rx hf q => by
  cases rx with
  | @lst a vs xs ha ra =>
    have hf : (match toBools xs with | some ns => f ns | none => .bad) = .ok d := hf
    cases e : toBools xs with
    | none => rw [e] at hf; cases hf
    | some ns =>
      rw [e] at hf
      have ev := toBools_rp ra e
      subst ev
      exact h a ns M H Q d s nt ha hf q
  | _ => cases hf
theorem nx_onInts {f : List Int → Out D} (h : ∀ ns c, f ns ≠ .exc c) : noX1 (onInts f) := fun d c q => by
  unfold onInts at q
  split at q
  · split at q
    · exact h _ _ q
    · cases q
  · cases q
theorem nx_onBools {f : List Bool → Out D} (h : ∀ ns c, f ns ≠ .exc c) : noX1 (onBools f) := fun d c q => by
  unfold onBools at q
  split at q
  · split at q
    · exact h _ _ q
    · cases q
  · cases q
def minL : List Int → Int
  | [] => 0
  | n :: ns => ns.foldl (fun a b => if b < a then b else a) n
def maxL : List Int → Int
  | [] => 0
  | n :: ns => ns.foldl (fun a b => if b > a then b else a) n
theorem foldMin (ns : List Int) : ∀ n, let m := ns.foldl (fun a b => if b < a then b else a) n; (m = n ∨ m ∈ ns) ∧ m ≤ n ∧ ∀ y ∈ ns, m ≤ y := by
  induction ns with
  | nil => intro n; exact ⟨.inl rfl, Int.le_refl _, fun y hy => by cases hy⟩
  | cons a ns ih =>
    intro n
    have h := ih (if a < n then a else n)
    simp only [List.foldl_cons]
    generalize hz : (if a < n then a else n) = z at h ⊢
    have hz1 : z ≤ a ∧ z ≤ n := by split at hz <;> omega
    obtain ⟨h1, h2, h3⟩ := h
    refine ⟨?_, ?_, fun y hy => ?_⟩
    · rcases h1 with h1 | h1
      · rw [h1, ← hz]
        split
        · exact .inr List.mem_cons_self
        · exact .inl rfl
      · exact .inr (List.mem_cons_of_mem _ h1)
    · omega
    · rcases List.mem_cons.mp hy with e | e
      · subst e
        omega
      · exact h3 y e
theorem foldMax (ns : List Int) : ∀ n, let m := ns.foldl (fun a b => if b > a then b else a) n; (m = n ∨ m ∈ ns) ∧ n ≤ m ∧ ∀ y ∈ ns, y ≤ m := by
  induction ns with
  | nil => intro n; exact ⟨.inl rfl, Int.le_refl _, fun y hy => by cases hy⟩
  | cons a ns ih =>
    intro n
    have h := ih (if a > n then a else n)
    simp only [List.foldl_cons]
    generalize hz : (if a > n then a else n) = z at h ⊢
    have hz1 : a ≤ z ∧ n ≤ z := by split at hz <;> omega
    obtain ⟨h1, h2, h3⟩ := h
    refine ⟨?_, ?_, fun y hy => ?_⟩
    · rcases h1 with h1 | h1
      · rw [h1, ← hz]
        split
        · exact .inr List.mem_cons_self
        · exact .inl rfl
      · exact .inr (List.mem_cons_of_mem _ h1)
    · omega
    · rcases List.mem_cons.mp hy with e | e
      · subst e
        omega
      · exact h3 y e
theorem minL_spec {ns : List Int} (h : ns ≠ []) : minL ns ∈ ns ∧ ∀ y ∈ ns, minL ns ≤ y := by
  cases ns with
  | nil => exact absurd rfl h
  | cons n ns =>
    obtain ⟨h1, h2, h3⟩ := foldMin ns n
    refine ⟨?_, fun y hy => ?_⟩
    · rcases h1 with e | e
      · exact List.mem_cons.mpr (.inl e)
      · exact List.mem_cons_of_mem _ e
    · rcases List.mem_cons.mp hy with e | e
      · subst e; exact h2
      · exact h3 y e
theorem maxL_spec {ns : List Int} (h : ns ≠ []) : maxL ns ∈ ns ∧ ∀ y ∈ ns, y ≤ maxL ns := by
  cases ns with
  | nil => exact absurd rfl h
  | cons n ns =>
    obtain ⟨h1, h2, h3⟩ := foldMax ns n
    refine ⟨?_, fun y hy => ?_⟩
    · rcases h1 with e | e
      · exact List.mem_cons.mpr (.inl e)
      · exact List.mem_cons_of_mem _ e
    · rcases List.mem_cons.mp hy with e | e
      · subst e; exact h2
      · exact h3 y e
def fMin (ns : List Int) : Out D := if ns.isEmpty then .bad else .ok (.int (minL ns))
def fMax (ns : List Int) : Out D := if ns.isEmpty then .bad else .ok (.int (maxL ns))
def dMin : D → Out D := onInts fMin
def dMax : D → Out D := onInts fMax
def dSum : D → Out D := onInts fun ns => .ok (.int ns.sum)
def dAll : D → Out D := onBools fun bs => .ok (.bl (bs.all id))
def dAny : D → Out D := onBools fun bs => .ok (.bl (bs.any id))
theorem cd_sum : CallD K mg T (rSum K) (c1 dSum) := cd_ints fun a ns M H Q d s nt ha hf q => by
  cases hf
  exact ⟨a, ns, rfl, SqL.of (s _ _ ha), q _ _ _ (Ext.refl s nt) (.int _)⟩
theorem nx_sum : noX1 dSum := nx_onInts fun _ _ h => by cases h
theorem cd_all : CallD K mg T (rAll K) (c1 dAll) := cd_bools fun a ns M H Q d s nt ha hf q => by
  cases hf
  exact ⟨a, ns, rfl, SqL.of (s _ _ ha), q _ _ _ (Ext.refl s nt) (.bl _)⟩
theorem nx_all : noX1 dAll := nx_onBools fun _ _ h => by cases h
theorem cd_any : CallD K mg T (rAny K) (c1 dAny) := cd_bools fun a ns M H Q d s nt ha hf q => by
  cases hf
  exact ⟨a, ns, rfl, SqL.of (s _ _ ha), q _ _ _ (Ext.refl s nt) (.bl _)⟩
theorem nx_any : noX1 dAny := nx_onBools fun _ _ h => by cases h
theorem cd_min : CallD K mg T (rMin K) (c1 dMin) := cd_ints fun a ns M H Q d s nt ha hf q => by
  unfold fMin at hf
  split at hf
  · cases hf
  · rename_i hne
    cases hf
    have hn : ns ≠ [] := fun z => by subst z; exact hne rfl
    refine ⟨a, ns, rfl, SqL.of (s _ _ ha), List.length_pos_iff.mpr hn, fun m hm hle => ?_⟩
    obtain ⟨k1, k2⟩ := minL_spec hn
    have e : m = minL ns := by
      have a1 := hle _ k1
      have a2 := k2 _ hm
      omega
    subst e
    exact q _ _ _ (Ext.refl s nt) (.int _)
theorem nx_min : noX1 dMin := nx_onInts fun ns c h => by unfold fMin at h; split at h <;> cases h
theorem cd_max : CallD K mg T (rMax K) (c1 dMax) := cd_ints fun a ns M H Q d s nt ha hf q => by
  unfold fMax at hf
  split at hf
  · cases hf
  · rename_i hne
    cases hf
    have hn : ns ≠ [] := fun z => by subst z; exact hne rfl
    refine ⟨a, ns, rfl, SqL.of (s _ _ ha), List.length_pos_iff.mpr hn, fun m hm hle => ?_⟩
    obtain ⟨k1, k2⟩ := maxL_spec hn
    have e : m = maxL ns := by
      have a1 := hle _ k1
      have a2 := k2 _ hm
      omega
    subst e
    exact q _ _ _ (Ext.refl s nt) (.int _)
theorem nx_max : noX1 dMax := nx_onInts fun ns c h => by unfold fMax at h; split at h <;> cases h
def dMax2 : D → D → Out D := i2 (fun _ _ => true) fun i j => .int (if j > i then j else i)
def dMin2 : D → D → Out D := i2 (fun _ _ => true) fun i j => .int (if j < i then j else i)
theorem cd_max2 : CallD K mg T (fun xs H Q => ∃ i j, xs = [V.int i, V.int j] ∧ Q (.int (if j > i then j else i)) H) (c2 dMax2) := cd_2 fun x y dx dy M H Q d s nt rx ry hf q => by
  obtain ⟨i, j, rfl, rfl, _, rfl⟩ := i2_ok hf
  cases rx
  cases ry
  exact ⟨i, j, rfl, q _ _ _ (Ext.refl s nt) (.int _)⟩
theorem cd_min2 : CallD K mg T (fun xs H Q => ∃ i j, xs = [V.int i, V.int j] ∧ Q (.int (if j < i then j else i)) H) (c2 dMin2) := cd_2 fun x y dx dy M H Q d s nt rx ry hf q => by
  obtain ⟨i, j, rfl, rfl, _, rfl⟩ := i2_ok hf
  cases rx
  cases ry
  exact ⟨i, j, rfl, q _ _ _ (Ext.refl s nt) (.int _)⟩
/-! ### in, not in -/
def inD (x : D) (ys : List D) : Bool := ys.any fun y => eqv y x
def flat : D → Bool
  | .non => true
  | .bl _ => true
  | .int _ => true
  | .str _ => true
  | _ => false
def inOk (x : D) : D → Bool
  | .lst ys => gd 8 x && gd 8 (.lst ys)
  | .tup ys => flat x && ys.all flat
  | _ => false
def seqD : D → List D
  | .lst ys => ys
  | .tup ys => ys
  | _ => []
def dIn (x y : D) : Out D := if inOk x y = true then .ok (.bl (inD x (seqD y))) else .bad
def dNotIn (x y : D) : Out D := if inOk x y = true then .ok (.bl (!inD x (seqD y))) else .bad
theorem nx_in : noX dIn := fun a b c h => by unfold dIn at h; split at h <;> cases h
theorem nx_notIn : noX dNotIn := fun a b c h => by unfold dNotIn at h; split at h <;> cases h
theorem eqV_eqv {v w : V} {a b : D} (ra : Rp K mg M v a) (rb : Rp K mg M w b) (fa : flat a = true) (fb : flat b = true) : flatV v = true ∧ flatV w = true ∧ eqV v w = eqv a b := by
  cases ra with
  | non => cases rb <;> first | exact ⟨rfl, rfl, rfl⟩ | cases fb
  | bl x => cases rb <;> first | exact ⟨rfl, rfl, rfl⟩ | cases fb
  | int x => cases rb <;> first | exact ⟨rfl, rfl, rfl⟩ | cases fb
  | str x => cases rb <;> first | exact ⟨rfl, rfl, rfl⟩ | cases fb
  | _ => cases fa
theorem inV_inD {x : V} {d : D} (rx : Rp K mg M x d) (fx : flat d = true) : ∀ {vs : List V} {ds : List D}, RpL K mg M vs ds → ds.all flat = true → vs.all flatV = true ∧ inV x vs = inD d ds
  | _, _, .nil, _ => ⟨rfl, rfl⟩
  | _ :: vs, _ :: ds, .cons h r, f => by
    rw [List.all_cons, Bool.and_eq_true] at f
    obtain ⟨h1, h2, h3⟩ := eqV_eqv h rx f.1 fx
    obtain ⟨k1, k2⟩ := inV_inD rx fx r f.2
    refine ⟨by rw [List.all_cons, h1, k1]; rfl, ?_⟩
    unfold inV inD at k2 ⊢
    rw [List.any_cons, List.any_cons, h3, k2]
def rInA (K : PySem.W.Frag) : R2 := fun x y H Q => rIn K false x y H Q ∨ rInD K x y H Q
def rNotInA (K : PySem.W.Frag) : R2 := fun x y H Q => rIn K true x y H Q ∨ rNotInD K x y H Q
theorem op_inA (hu : X.A.units + 65 < cLine) : OpR X (compareOp .In) (rInA X.K) := op_in_seq.or (op_inD hu)
theorem op_notInA (hu : X.A.units + 65 < cLine) : OpR X (compareOp .NotIn) (rNotInA X.K) := op_notIn_seq.or (op_notInD hu)
theorem any_pyL (x : D) : ∀ ys : List D, ((D.pyL ys).any fun z => PyData.eqv z x.py) = inD x ys
  | [] => rfl
  | y :: ys => by
    have h := any_pyL x ys
    unfold inD at h ⊢
    simp only [D.pyL, List.any_cons, h]
    rfl
theorem od_in : OpD K mg T (rInA K) dIn := fun x y dx dy M H Q d s nt rx ry h q => by
  unfold dIn at h
  by_cases ho : inOk dx dy = true
  · rw [if_pos ho] at h
    cases h
    cases ry with
    | @lst a vs ys ha ra =>
      have ho : (gd 8 dx && gd 8 (.lst ys)) = true := ho
      rw [Bool.and_eq_true] at ho
      have dl := Rp.dp (n := 8) s (Rp.lst (mg := mg) (K := K) ha ra) ho.2
      have sl := gd_shaped ho.2
      unfold D.py at dl sl
      refine .inr ⟨dx.py, D.pyL ys, rx.dp s ho.1, dl, gd_shaped ho.1, sl, ?_⟩
      rw [any_pyL]
      exact q _ _ _ (Ext.refl s nt) (.bl _)
    | @tup a vs ys ha ra =>
      have ho : (flat dx && ys.all flat) = true := ho
      rw [Bool.and_eq_true] at ho
      obtain ⟨k1, k2⟩ := inV_inD rx ho.1 ra ho.2
      have fx : flatV x = true := (eqV_eqv rx rx ho.1 ho.1).1
      refine .inl ⟨a, vs, rfl, .inr (same_sqT s ha), fx, k1, ?_⟩
      show Q (.bl (inV x vs)) H
      rw [k2]
      exact q _ _ _ (Ext.refl s nt) (.bl _)
    | _ => cases ho
  · rw [if_neg ho] at h
    cases h
theorem od_notIn : OpD K mg T (rNotInA K) dNotIn := fun x y dx dy M H Q d s nt rx ry h q => by
  unfold dNotIn at h
  by_cases ho : inOk dx dy = true
  · rw [if_pos ho] at h
    cases h
    cases ry with
    | @lst a vs ys ha ra =>
      have ho : (gd 8 dx && gd 8 (.lst ys)) = true := ho
      rw [Bool.and_eq_true] at ho
      have dl := Rp.dp (n := 8) s (Rp.lst (mg := mg) (K := K) ha ra) ho.2
      have sl := gd_shaped ho.2
      unfold D.py at dl sl
      refine .inr ⟨dx.py, D.pyL ys, rx.dp s ho.1, dl, gd_shaped ho.1, sl, ?_⟩
      rw [any_pyL]
      exact q _ _ _ (Ext.refl s nt) (.bl _)
    | @tup a vs ys ha ra =>
      have ho : (flat dx && ys.all flat) = true := ho
      rw [Bool.and_eq_true] at ho
      obtain ⟨k1, k2⟩ := inV_inD rx ho.1 ra ho.2
      have fx : flatV x = true := (eqV_eqv rx rx ho.1 ho.1).1
      refine .inl ⟨a, vs, rfl, .inr (same_sqT s ha), fx, k1, ?_⟩
      show Q (.bl (!inV x vs)) H
      rw [k2]
      exact q _ _ _ (Ext.refl s nt) (.bl _)
    | _ => cases ho
  · rw [if_neg ho] at h
    cases h
/-! ### < of tuples; is -/
def dLt : D → D → Out D
  | .int i, .int j => .ok (.bl (decide (i < j)))
  | .tup xs, .tup ys => (match toInts xs, toInts ys with
    | some ns, some ms => .ok (.bl (HT.lexLt ns ms))
    | _, _ => .bad)
  | _, _ => .bad
theorem nx_lt : noX dLt := fun a b c h => by
  unfold dLt at h
  split at h
  · cases h
  · split at h <;> cases h
  · cases h
def rLtA (K : PySem.W.Frag) : R2 := fun x y H Q => rI0 (fun i j => .bl (decide (i < j))) x y H Q ∨ rLtT K x y H Q
theorem op_ltA (hu : X.A.units < cLine) : OpR X (compareOp .Lt) (rLtA X.K) := op_lt.or (op_ltT hu)
theorem od_lt : OpD K mg T (rLtA K) dLt := fun x y dx dy M H Q d s nt rx ry h q => by
  cases rx with
  | int i =>
    cases ry with
    | int j =>
      cases h
      exact .inl ⟨i, j, rfl, rfl, q _ _ _ (Ext.refl s nt) (.bl _)⟩
    | _ => cases h
  | @tup a vs xs ha ra =>
    cases ry with
    | @tup b ws ys hb rb =>
      have h : (match toInts xs, toInts ys with | some ns, some ms => Out.ok (D.bl (HT.lexLt ns ms)) | _, _ => .bad) = .ok d := h
      cases e1 : toInts xs with
      | none => rw [e1] at h; cases h
      | some ns =>
        cases e2 : toInts ys with
        | none => rw [e1, e2] at h; cases h
        | some ms =>
          rw [e1, e2] at h
          cases h
          have v1 := toInts_rp ra e1
          have v2 := toInts_rp rb e2
          subst v1 v2
          exact .inr ⟨a, b, ns, ms, rfl, rfl, same_sqT s ha, same_sqT s hb, q _ _ _ (Ext.refl s nt) (.bl _)⟩
    | _ => cases h
  | _ => cases ry <;> cases h
def isNon : D → Bool
  | .non => true
  | _ => false
def dIsN (x y : D) : Out D := match y with
  | .non => .ok (.bl (isNon x))
  | _ => .bad
def dNotN (x y : D) : Out D := match y with
  | .non => .ok (.bl (!isNon x))
  | _ => .bad
theorem isNon_rp {v : V} {d : D} (r : Rp K mg M v d) : decide (v = .non) = isNon d := by
  cases r <;> first | rfl | exact decide_eq_false (fun z => by cases z)
theorem od_isN : OpD K mg T (fun x y H Q => y = .non ∧ Q (.bl (decide (x = .non))) H) dIsN := fun x y dx dy M H Q d s nt rx ry h q => by
  cases ry with
  | non =>
    cases h
    refine ⟨rfl, ?_⟩
    rw [isNon_rp rx]
    exact q _ _ _ (Ext.refl s nt) (.bl _)
  | _ => cases h
theorem od_notN : OpD K mg T (fun x y H Q => y = .non ∧ Q (.bl (!decide (x = .non))) H) dNotN := fun x y dx dy M H Q d s nt rx ry h q => by
  cases ry with
  | non =>
    cases h
    refine ⟨rfl, ?_⟩
    rw [isNon_rp rx]
    exact q _ _ _ (Ext.refl s nt) (.bl _)
  | _ => cases h
theorem nx_isN : noX dIsN := fun a b c h => by unfold dIsN at h; split at h <;> cases h
theorem nx_notN : noX dNotN := fun a b c h => by unfold dNotN at h; split at h <;> cases h
def dIsB : D → D → Out D
  | .bl a, .bl b => .ok (.bl (decide (a = b)))
  | _, _ => .bad
def dNotB : D → D → Out D
  | .bl a, .bl b => .ok (.bl (!decide (a = b)))
  | _, _ => .bad
theorem od_isB : OpD K mg T (fun x y H Q => ∃ a b, x = .bl a ∧ y = .bl b ∧ Q (.bl (decide (a = b))) H) dIsB := fun x y dx dy M H Q d s nt rx ry h q => by
  cases rx with
  | bl a =>
    cases ry with
    | bl b =>
      cases h
      exact ⟨a, b, rfl, rfl, q _ _ _ (Ext.refl s nt) (.bl _)⟩
    | _ => cases h
  | _ => cases ry <;> cases h
theorem od_notB : OpD K mg T (fun x y H Q => ∃ a b, x = .bl a ∧ y = .bl b ∧ Q (.bl (!decide (a = b))) H) dNotB := fun x y dx dy M H Q d s nt rx ry h q => by
  cases rx with
  | bl a =>
    cases ry with
    | bl b =>
      cases h
      exact ⟨a, b, rfl, rfl, q _ _ _ (Ext.refl s nt) (.bl _)⟩
    | _ => cases h
  | _ => cases ry <;> cases h
theorem nx_isB : noX dIsB := fun a b c h => by unfold dIsB at h; split at h <;> cases h
theorem nx_notB : noX dNotB := fun a b c h => by unfold dNotB at h; split at h <;> cases h
def dNeg : D → Out D
  | .int i => .ok (.int (-i))
  | _ => .bad
theorem e_neg {a : Expr} {m : Env → Out D} {pos : Pos} (h : PEm X T E a m) : PEm X T E (.UnaryOp .USub a pos) (m1 dNeg m) := weakE (pe_un un_neg h) fun σ H Q h => by
  obtain ⟨Γ, M, H0, r, f⟩ := h
  refine ⟨Γ, M, H0, r, Fin.bind f fun d v H1 M1 _ e1 r1 f1 => ?_⟩
  cases r1 with
  | int i => exact ⟨i, rfl, f1 _ _ _ (r.ext e1).ext0 (.int _)⟩
  | _ => exact f1.elim
/-! ### chains a < b < c -/
def mChain (f g : D → D → Out D) (a b c : Env → Out D) : Env → Out D := fun Γ => (a Γ).bind fun x => (b Γ).bind fun y => (f x y).bind fun k => match k with
  | .bl true => (c Γ).bind (g y)
  | .bl false => .ok (.bl false)
  | _ => .bad
theorem tChain_of {r r' : R2} {f g : D → D → Out D} {a b c : Env → Out D} (hd : OpD K mg T r f) (hx : noX f) (hd' : OpD K mg T r' g) (hx' : noX g) {Q : VK} (h : tOf K mg T E (mChain f g a b c) σ H Q) : tChain r r' (tOf K mg T E a) (tOf K mg T E b) (tOf K mg T E c) σ H Q := by
  obtain ⟨Γ, M, H0, rs, fn⟩ := h
  refine ⟨Γ, M, H0, rs, Fin.bind fn fun x v H1 M1 _ e1 r1 f1 => ?_⟩
  refine ⟨Γ, M1, H0, rs.ext e1, Fin.bind f1 fun y v2 H2 M2 _ e2 r2 f2 => ?_⟩
  have rs2 := (rs.ext e1).ext e2
  cases q : f x y with
  | exc c => exact absurd q (hx x y c)
  | bad =>
    rw [q] at f2
    exact f2.elim
  | ok k =>
    rw [q] at f2
    refine hd v v2 x y M2 H2 _ k rs2.ms rs2.nt (r1.mono e2.mm) r2 q fun w H3 M3 e3 r3 => ?_
    cases r3 with
    | bl b =>
      refine ⟨b, rfl, ?_⟩
      have rs3 := rs2.ext e3
      cases b with
      | false => exact f2 _ _ _ e3 (.bl false)
      | true =>
        refine iteT ⟨Γ, M3, H0, rs3, Fin.bind (Fin.up f2 e3) fun z v4 H4 M4 _ e4 r4 f4 => ?_⟩
        have rs4 := rs3.ext e4
        cases q5 : g y z with
        | exc c => exact absurd q5 (hx' y z c)
        | bad =>
          rw [q5] at f4
          exact f4.elim
        | ok k5 =>
          rw [q5] at f4
          exact hd' v2 v4 y z M4 H4 Q k5 rs4.ms rs4.nt (r2.mono (e3.mm.trans e4.mm)) r4 q5 f4
    | _ => exact f2.elim

theorem e_chain {op op' : CmpOp} {r r' : R2} {f g : D → D → Out D} {a b c : Expr} {ma mb mc : Env → Out D} {pos : Pos} (ho : OpR X (compareOp op) r) (hd : OpD X.K X.mg T r f) (hx : noX f) (ho' : OpR X (compareOp op') r') (hd' : OpD X.K X.mg T r' g) (hx' : noX g) (ha : PEm X T E a ma) (hb : PEm X T E b mb) (hc : PEm X T E c mc)
    (hm : lastMarks [op, op'] [b, c] = false := by with_unfolding_all rfl) : PEm X T E (.Compare a [op, op'] [b, c] pos) (mChain f g ma mb mc) := weakE (pe_chain ho ho' ha hb hc hm) fun _ _ _ h => tChain_of hd hx hd' hx' h
theorem t_chain {op op' : CmpOp} {r r' : R2} {f g : D → D → Out D} {a b c : Expr} {ma mb mc : Env → Out D} {pos : Pos} (ho : OpR X (compareOp op) r) (hd : OpD X.K X.mg T r f) (hx : noX f) (ho' : OpR X (compareOp op') r') (hd' : OpD X.K X.mg T r' g) (hx' : noX g) (ha : PEm X T E a ma) (hb : PEm X T E b mb) (hc : PEm X T E c mc)
    (hm : lastMarks [op, op'] [b, c] = false := by with_unfolding_all rfl) : PTm X T E (.Compare a [op, op'] [b, c] pos) (mT (mChain f g ma mb mc)) := weakT (pt_chain ho ho' ha hb hc hm) fun _ _ _ h => tChain_of hd hx hd' hx' (tB_of h)
end FL
set_option Elab.async false
set_option linter.all false
set_option maxRecDepth 100000
set_option maxHeartbeats 2000000
namespace FL
open PySem PySem.Spec PyProof.Rows L2 LamX
variable {K : PySem.W.Frag} {mg : Str → Option Value} {T : List (Addr × Str)} {H0 M0 M M' M1 M2 H H' H1 H2 : Hp} {Γ Γ' : Env} {σ σ' : L2.St} {E : XK} {X : Cx}
variable {a b c : Expr} {ma mb mc : Env → Out D} {ms : Env → Out (List D)} {pos p : Pos}

/-! ### the rules by short names -/
theorem e_add (ha : PEm X T E a ma) (hb : PEm X T E b mb) : PEm X T E (.BinOp a .Add b pos) (m2 dAdd ma mb) := e_op op_addA od_add nx_add ha hb
theorem e_sub (ha : PEm X T E a ma) (hb : PEm X T E b mb) : PEm X T E (.BinOp a .Sub b pos) (m2 dSub ma mb) := e_op op_sub od_sub nx_i2 ha hb
theorem e_mul (ha : PEm X T E a ma) (hb : PEm X T E b mb) : PEm X T E (.BinOp a .Mult b pos) (m2 dMul ma mb) := e_op op_mulA od_mul nx_mul ha hb
theorem e_div (ha : PEm X T E a ma) (hb : PEm X T E b mb) : PEm X T E (.BinOp a .FloorDiv b pos) (m2 dDiv ma mb) := e_op op_fdivW od_div nx_i2 ha hb
theorem e_mod (ha : PEm X T E a ma) (hb : PEm X T E b mb) : PEm X T E (.BinOp a .Mod b pos) (m2 dMod ma mb) := e_op op_mod od_mod nx_i2 ha hb
theorem e_pow (ha : PEm X T E a ma) (hb : PEm X T E b mb) : PEm X T E (.BinOp a .Pow b pos) (m2 dPow ma mb) := e_op op_pow od_pow nx_i2 ha hb
theorem e_shl (ha : PEm X T E a ma) (hb : PEm X T E b mb) : PEm X T E (.BinOp a .LShift b pos) (m2 dShl ma mb) := e_op op_shl od_shl nx_i2 ha hb
theorem e_band (ha : PEm X T E a ma) (hb : PEm X T E b mb) : PEm X T E (.BinOp a .BitAnd b pos) (m2 dAndI ma mb) := e_op op_and od_and nx_i2 ha hb
theorem e_xor (ha : PEm X T E a ma) (hb : PEm X T E b mb) : PEm X T E (.BinOp a .BitXor b pos) (m2 dXorI ma mb) := e_op op_xor od_xor nx_i2 ha hb
/-- comparisons: kinds -/
inductive Cm (X : Cx) (T : List (Addr × Str)) : CmpOp → (D → D → Out D) → Prop
  | mk {op : CmpOp} {r : R2} {f : D → D → Out D} (ho : OpR X (compareOp op) r) (hd : OpD X.K X.mg T r f) (hx : noX f) : Cm X T op f
theorem c_eq {k : Nat} (hr : Room k X.A) : Cm X T .Eq dEq := ⟨op_eqD hr.units, od_eq, nx_eq⟩
theorem c_ne {k : Nat} (hr : Room k X.A) : Cm X T .NotEq dNe := ⟨op_neD hr.units, od_ne, nx_ne⟩
theorem c_lt {k : Nat} (hr : Room k X.A) : Cm X T .Lt dLt := ⟨op_ltA hr.units0, od_lt, nx_lt⟩
theorem c_le : Cm X T .LtE dLe := ⟨op_le, od_le, nx_i2⟩
theorem c_gt : Cm X T .Gt dGt := ⟨op_gt, od_gt, nx_i2⟩
theorem c_ge : Cm X T .GtE dGe := ⟨op_ge, od_ge, nx_i2⟩
theorem c_in {k : Nat} (hr : Room k X.A) : Cm X T .In dIn := ⟨op_inA (by have := hr.un; omega), od_in, nx_in⟩
theorem c_notIn {k : Nat} (hr : Room k X.A) : Cm X T .NotIn dNotIn := ⟨op_notInA (by have := hr.un; omega), od_notIn, nx_notIn⟩
theorem c_isN : Cm X T .Is dIsN := ⟨op_isN, od_isN, nx_isN⟩
theorem c_notN : Cm X T .IsNot dNotN := ⟨op_notN, od_notN, nx_notN⟩
theorem c_isB : Cm X T .Is dIsB := ⟨op_is_bl, od_isB, nx_isB⟩
theorem c_notB : Cm X T .IsNot dNotB := ⟨op_isnot_bl, od_notB, nx_notB⟩
theorem e_cm {op : CmpOp} {f : D → D → Out D} (k : Cm X T op f) (ha : PEm X T E a ma) (hb : PEm X T E b mb) (hm : behindInMarks op b = false := by rfl) : PEm X T E (.Compare a [op] [b] pos) (m2 f ma mb) := by
  obtain ⟨ho, hd, hx⟩ := k
  exact e_cmp ho hd hx ha hb hm
theorem t_cm {op : CmpOp} {f : D → D → Out D} (k : Cm X T op f) (ha : PEm X T E a ma) (hb : PEm X T E b mb) (hm : behindInMarks op b = false := by rfl) : PTm X T E (.Compare a [op] [b] pos) (mT (m2 f ma mb)) := by
  obtain ⟨ho, hd, hx⟩ := k
  exact t_cmp ho hd hx ha hb hm
theorem e_ch {op op' : CmpOp} {f g : D → D → Out D} (k : Cm X T op f) (k' : Cm X T op' g) (ha : PEm X T E a ma) (hb : PEm X T E b mb) (hc : PEm X T E c mc) (hm : lastMarks [op, op'] [b, c] = false := by with_unfolding_all rfl) : PEm X T E (.Compare a [op, op'] [b, c] pos) (mChain f g ma mb mc) := by
  obtain ⟨ho, hd, hx⟩ := k
  obtain ⟨ho', hd', hx'⟩ := k'
  exact e_chain ho hd hx ho' hd' hx' ha hb hc hm
theorem t_ch {op op' : CmpOp} {f g : D → D → Out D} (k : Cm X T op f) (k' : Cm X T op' g) (ha : PEm X T E a ma) (hb : PEm X T E b mb) (hc : PEm X T E c mc) (hm : lastMarks [op, op'] [b, c] = false := by with_unfolding_all rfl) : PTm X T E (.Compare a [op, op'] [b, c] pos) (mT (mChain f g ma mb mc)) := by
  obtain ⟨ho, hd, hx⟩ := k
  obtain ⟨ho', hd', hx'⟩ := k'
  exact t_chain ho hd hx ho' hd' hx' ha hb hc hm
/-- built-ins: the name, what it does -/
inductive Bt (X : Cx) (T : List (Addr × Str)) : Str → (List D → Out D) → Prop
  | fn {x : Str} {id : String} {r : List V → Hp → VK → Prop} {f : List D → Out D} (hc : CallR X (.builtin id) r) (hd : CallD X.K X.mg T r f) (hx : noXN f) (hm : X.mg x = none) (hv : bootBuiltins x = some (.builtin id)) (hn : x ≠ "__name__") (hdb : (x == ("__debug__" : Str)) = false) : Bt X T x f
  | ty {x : Str} {id : String} {r : List V → Hp → VK → Prop} {f : List D → Out D} (hc : CallR X (.type id) r) (hd : CallD X.K X.mg T r f) (hx : noXN f) (hm : X.mg x = none) (hv : bootBuiltins x = some (.type id)) (hn : x ≠ "__name__") (hdb : (x == ("__debug__" : Str)) = false) : Bt X T x f
theorem e_bt {x : Str} {f : List D → Out D} {e : Expr} {es : List Expr} (k : Bt X T x f) (hg : Gl X x) (ha : PAm X T E (e :: es) ms) (he : starEach (e :: es) X.env = (false, eval e X.env) :: starEach es X.env := by rfl) (hpl : (backTo pos (starEach es X.env)).any (·.1) = false := by rfl) : PEm X T E (.Call (.Name x p) (e :: es) [] pos) (mN f ms) := by
  cases k with
  | fn hc hd hx hm hv hn hdb => exact e_callB hc hd hx hg hm hv ha hn hdb he hpl
  | ty hc hd hx hm hv hn hdb => exact e_callTy hc hd hx hg hm hv ha hn hdb he hpl
theorem b_len (hm : X.mg "len" = none) : Bt X T "len" (c1 dLen) := .fn call_len_seq cd_len (nx_c1 nx_len) hm PySem.boot_len (by decide) (by decide)
theorem b_isi (hm : X.mg "isinstance" = none) : Bt X T "isinstance" (c2 dIsi) := .fn call_isi cd_isi (nx_c2 nx_isi) hm (by decide +kernel) (by decide) (by decide)
theorem b_abs (hm : X.mg "abs" = none) : Bt X T "abs" (c1 dAbs) := .fn call_abs cd_abs (nx_c1 nx_abs) hm (by decide +kernel) (by decide) (by decide)
theorem b_int (hm : X.mg "int" = none) : Bt X T "int" (c1 dInt) := .ty call_int1 cd_int (nx_c1 nx_int) hm (by decide +kernel) (by decide) (by decide)
theorem b_list (hm : X.mg "list" = none) : Bt X T "list" (c1 dList) := .ty call_list_of cd_list (nx_c1 nx_list) hm (by decide +kernel) (by decide) (by decide)
theorem b_tuple (hm : X.mg "tuple" = none) : Bt X T "tuple" (c1 dTuple) := .ty call_tuple_of cd_tuple (nx_c1 nx_tuple) hm (by decide +kernel) (by decide) (by decide)
theorem b_sum (hc : X.calm = true) (hm : X.mg "sum" = none) : Bt X T "sum" (c1 dSum) := .fn (cr_sum hc) cd_sum (nx_c1 nx_sum) hm (by decide +kernel) (by decide) (by decide)
theorem b_all (hc : X.calm = true) (hm : X.mg "all" = none) : Bt X T "all" (c1 dAll) := .fn (cr_all hc) cd_all (nx_c1 nx_all) hm (by decide +kernel) (by decide) (by decide)
theorem b_any (hc : X.calm = true) (hm : X.mg "any" = none) : Bt X T "any" (c1 dAny) := .fn (cr_any hc) cd_any (nx_c1 nx_any) hm (by decide +kernel) (by decide) (by decide)
theorem b_min (hc : X.calm = true) (hm : X.mg "min" = none) : Bt X T "min" (c1 dMin) := .fn (cr_min hc) cd_min (nx_c1 nx_min) hm (by decide +kernel) (by decide) (by decide)
theorem b_max (hc : X.calm = true) (hm : X.mg "max" = none) : Bt X T "max" (c1 dMax) := .fn (cr_max hc) cd_max (nx_c1 nx_max) hm (by decide +kernel) (by decide) (by decide)
theorem b_min2 (hc : X.calm = true) (hm : X.mg "min" = none) : Bt X T "min" (c2 dMin2) := .fn (call_min2 hc) cd_min2 (nx_c2 nx_i2) hm (by decide +kernel) (by decide) (by decide)
theorem b_max2 (hc : X.calm = true) (hm : X.mg "max" = none) : Bt X T "max" (c2 dMax2) := .fn (call_max2 hc) cd_max2 (nx_c2 nx_i2) hm (by decide +kernel) (by decide) (by decide)
/-- a built-in class as a value -/
theorem e_ty {x : Str} {n : String} (hm : X.mg x = none) (hv : bootBuiltins x = some (.type n)) (hg : Gl X x) (hn : x ≠ "__name__" := by decide) (hd : (x == ("__debug__" : Str)) = false := by decide) : PEm X T E (.Name x p) (mC (.ty n)) := ec (pe_bltn (v := .ty n) hg hm hv rfl hn hd) fun _ => .ty n
/-- a def as a value; a constant of the module -/
theorem e_fn {x : Str} {f : Addr} (hm : X.mg x = some (.ref f)) (hg : Gl X x) (hd : (x == ("__debug__" : Str)) = false := by decide) : PEm X T E (.Name x p) (mC (.fn x)) := ec (pe_glob (v := .ref f) hg hm rfl hd) fun _ => .fn hm
theorem e_gint {x : Str} {i : Int} (hm : ∃ t, X.mg x = some (.int i t)) (hg : Gl X x) (hd : (x == ("__debug__" : Str)) = false := by decide) : PEm X T E (.Name x p) (mC (.int i)) := by
  obtain ⟨t, hm⟩ := hm
  exact ec (pe_glob (v := .int i) hg hm ⟨t, rfl⟩ hd) fun _ => .int i
/-- a module's tuple of whole numbers -/
def GTup (K : PySem.W.Frag) (mg : Str → Option Value) (x : Str) (ns : List Int) : Prop := ∃ f, mg x = some (.ref f) ∧ ∀ M, SqT K M f (ns.map V.int)
theorem rpL_ints : ∀ ns : List Int, RpL K mg M (ns.map V.int) (ns.map D.int)
  | [] => .nil
  | n :: ns => .cons (.int n) (rpL_ints ns)
theorem e_gtup {x : Str} {ns : List Int} (h : GTup X.K X.mg x ns) (hg : Gl X x) (hd : (x == ("__debug__" : Str)) = false := by decide) : PEm X T E (.Name x p) (mC (.tup (ns.map D.int))) := by
  obtain ⟨f, hm, hs⟩ := h
  exact ec (pe_glob (v := .ref f) hg hm rfl hd) fun M => .tup (hs M) (rpL_ints ns)
/-- names of the def as targets -/
theorem g_nm (i : Nat) {x : Str} (hN : X.N.Nodup) (hi : X.N[i]? = some x := by rfl) (hx : Loc X.env.scope x := by first | exact Or.inl rfl | exact Or.inr rfl) (hf : X.fn x = true ∨ X.env.scope.names.lookup x = some .local := by first | exact .inl rfl | exact .inr rfl) : PG X (.Name x pos) (gP X.K (.nm i)) := pg_name hN hi hx hf
/-- the store of a name; of a comprehension to a local -/
theorem s_st {m : Env → Out D} {e : Expr} {pos' : Pos} (i : Nat) {x : Str} (hN : X.N.Nodup) (h : PEm X T E e m) (hi : X.N[i]? = some x := by rfl) (hx : Loc X.env.scope x := by first | exact Or.inl rfl | exact Or.inr rfl) (hs : swapsWith e (some (.Name x pos')) pos.line X.env = pure false := by rfl)
    (hf : X.fn x = true ∨ X.env.scope.names.lookup x = some .local := by first | exact .inl rfl | exact .inr rfl) : PSm X T E (.Assign [.Name x pos'] e pos) (sSet i m) := s_set hN hi hx h hs hf
theorem s_so {es : List Expr} {pos' lpos : Pos} (i : Nat) {x : Str} (hN : X.N.Nodup) (h : PAm X T E es ms) (hi : X.N[i]? = some x := by rfl) (hx : Loc X.env.scope x := by first | exact Or.inl rfl | exact Or.inr rfl) (hs : swapsWith (.List es lpos) (some (.Name x pos')) pos.line X.env = pure false := by rfl)
    (hf : X.fn x = true ∨ X.env.scope.names.lookup x = some .local := by first | exact .inl rfl | exact .inr rfl) : PSm X T E (.Assign [.Name x pos'] (.List es lpos) pos) (sOwn i ms) := s_own hN hi hx h hs hf
theorem sp2 {pt p1 p2 p3 : Pos} {k1 k2 : Nat} (i j : Nat) {x y : Str} {e f : Expr} {ms : Env → Out (List D)} (h : PS X (.Assign [.Tuple [.Name x p1, .Name y p2] k1 p3] (.Tuple [e, f] k2 pt) pos) (tPar i j (taOf X.K X.mg T E ms))) : PSm X T E (.Assign [.Tuple [.Name x p1, .Name y p2] k1 p3] (.Tuple [e, f] k2 pt) pos) (sPar i j ms) := weakS h fun _ _ _ h => tPar_of h
/-- xs.index(y), the first place; whole numbers, truths -/
def idxD (y : D) : List D → Option Nat
  | [] => none
  | z :: zs => if eqv z y = true then some 0 else (idxD y zs).map (· + 1)
/-- a list's method of one argument -/
def mL (f : List D → D → Out D) (a b : Env → Out D) : Env → Out D := fun Γ => (a Γ).bind fun x => match x with
  | .lst zs => (b Γ).bind (f zs)
  | _ => .bad
def dIndex (zs : List D) (y : D) : Out D := if (flat y && zs.all flat) = true then (match idxD y zs with
    | some j => .ok (.int (j : Nat))
    | none => .bad) else .bad
theorem idxD_spec {y : D} : ∀ {zs : List D} {j : Nat}, idxD y zs = some j → ∃ z, zs[j]? = some z ∧ eqv z y = true ∧ ∀ m z', m < j → zs[m]? = some z' → eqv z' y = false
  | [], _, h => by cases h
  | z :: zs, j, h => by
    unfold idxD at h
    by_cases e : eqv z y = true
    · rw [if_pos e] at h
      cases h
      exact ⟨z, rfl, e, fun m z' hm => absurd hm (Nat.not_lt_zero _)⟩
    · rw [if_neg e] at h
      cases q : idxD y zs with
      | none => rw [q] at h; cases h
      | some k =>
        rw [q] at h
        cases h
        obtain ⟨w, h1, h2, h3⟩ := idxD_spec q
        refine ⟨w, by simpa using h1, h2, fun m z' hm hz => ?_⟩
        cases m with
        | zero =>
          simp at hz
          subst hz
          simpa using e
        | succ m => exact h3 m z' (Nat.lt_of_succ_lt_succ hm) (by simpa using hz)
theorem flat_all {vs : List V} {ds : List D} (r : RpL K mg M vs ds) (f : ds.all flat = true) : vs.all flatV = true := by
  have aux : ∀ {vs : List V} {ds : List D}, RpL K mg M vs ds → ds.all flat = true → vs.all flatV = true := fun {vs} => by
    induction vs with
    | nil => intro ds _ _; rfl
    | cons v vs ih =>
      intro ds r f
      cases r with
      | cons h t =>
        rw [List.all_cons, Bool.and_eq_true] at f
        rw [List.all_cons, (eqV_eqv h h f.1 f.1).1, ih t f.2]
        rfl
  exact aux r f
theorem e_index {e : Expr} {apos cpos : Pos} (ho : PEm X T E a ma) (he : PEm X T E e mb)
    (hbase : attributeBase a "index" X.env (eval a X.env) = eval a X.env := by rfl)
    (hfew : ((backTo cpos (starEach [e] X.env)).all (fun x => !x.1) && (backToKw cpos (keywordEach [] X.env)).all (fun x => x.1.isSome) && decide ([e].length + ([] : List Keyword).length + (if ([] : List Keyword).isEmpty then 0 else 1) < 30)) = true := by rfl)
    (hline : (apos.endLine == cpos.line) = true := by rfl) (hs : starEach [e] X.env = (false, eval e X.env) :: starEach [] X.env := by rfl) (hplain : (backTo cpos (starEach [] X.env)).any (·.1) = false := by rfl) :
    PEm X T E (.Call (.Attribute a "index" apos) [e] [] cpos) (mL dIndex ma mb) :=
  weakE (pe_bm PySem.F.plainAttrs_list PySem.F.slot_list_index PySem.F.type_list_index mt_index ho (pa_cons he pa_nil hs) hbase hfew hline hs hplain) fun σ H Q h => by
    obtain ⟨Γ, M, H0, r, f⟩ := h
    refine ⟨Γ, M, H0, r, Fin.bind f fun d v H1 M1 _ e1 r1 f1 => ?_⟩
    have rs := r.ext e1
    cases r1 with
    | @lst a vs zs ha ra =>
      refine ⟨.inl ⟨rfl, _, SqL.of (rs.ms _ _ ha)⟩, Γ, M1, H0, rs, Fin.bind f1 fun y w H2 M2 _ e2 r2 f2 => ?_⟩
      have rs2 := rs.ext e2
      have ra2 := ra.mono e2.mm
      unfold dIndex at f2
      by_cases hf : (flat y && zs.all flat) = true
      · rw [if_pos hf] at f2
        rw [Bool.and_eq_true] at hf
        cases q : idxD y zs with
        | none =>
          rw [q] at f2
          exact f2.elim
        | some j =>
          rw [q] at f2
          obtain ⟨z, h1, h2, h3⟩ := idxD_spec q
          obtain ⟨u, k1, k2⟩ := ra2.get h1
          have fz : flat z = true := List.all_eq_true.mp hf.2 z (List.mem_of_getElem? h1)
          refine ⟨a, vs, w, j, u, rfl, rfl, SqL.of (rs2.ms _ _ (e2.mm _ _ ha)), (eqV_eqv r2 r2 hf.1 hf.1).1, flat_all ra2 hf.2, k1, ?_, ?_, ?_⟩
          · rw [(eqV_eqv k2 r2 fz hf.1).2.2]
            exact h2
          · intro m u' hm hu
            obtain ⟨z', l1, l2⟩ := ra2.get' hu
            have fz' : flat z' = true := List.all_eq_true.mp hf.2 z' (List.mem_of_getElem? l1)
            rw [(eqV_eqv l2 r2 fz' hf.1).2.2]
            exact h3 m z' hm l1
          · exact f2 _ _ _ rs2.ext0 (.int _)
      · rw [if_neg hf] at f2
        exact f2.elim
    | _ => exact f1.elim
/-- what a list of one's own tells, without sharing it -/
def mOwn (i : Nat) (f : List D → Out D) : Env → Out D := fun Γ => match ownAt Γ i with
  | some ds => f ds
  | none => .bad
def mOIx (i : Nat) (m : Env → Out D) : Env → Out D := fun Γ => match ownAt Γ i with
  | some ds => (m Γ).bind (dIx (.lst ds))
  | none => .bad
theorem e_oix {x : Str} {b : Expr} {m : Env → Out D} {pos pos' : Pos} (i : Nat) (hb : PEm X T E b m) (hs : PlainIx b) (hN : X.N[i]? = some x := by rfl) (hv : Vis X.env.scope x := by first | exact Or.inl rfl | exact Or.inr (Or.inl rfl) | exact Or.inr (Or.inr rfl)) (hd : (x == ("__debug__" : Str)) = false := by decide)
    (hcd : (x == ("__classdict__" : Str)) = false := by decide) : PEm X T E (.Subscript (.Name x pos') b pos) (mOIx i m) :=
  weakE (pe_ix ix_list (pe_var hN hv hd hcd) hb hs) fun σ H Q h => by
    obtain ⟨Γ, M, H0, r, f⟩ := h
    unfold mOIx at f
    cases q : ownAt Γ i with
    | none =>
      rw [q] at f
      exact f.elim
    | some ds =>
      rw [q] at f
      have hq := ownAt_some q
      obtain ⟨a, vs, h1, h2, h3, h4, h5⟩ := r.own i ds hq
      refine ⟨.ref a, h1, Γ, M, H0, r, Fin.bind f fun d v H1 M1 _ e1 r1 f1 => ?_⟩
      have rs := r.ext e1
      obtain ⟨k1, k2⟩ := e1.out h3 h2 (fun ps z => by cases z)
      cases r1 with
      | int j =>
        have f1 : Fin X.K X.mg T M1 H1 Q E (match atI ds j with | some d => Out.ok d | none => .bad) := f1
        cases e : atI ds j with
        | none =>
          rw [e] at f1
          exact f1.elim
        | some z =>
          rw [e] at f1
          obtain ⟨u, l1, l2⟩ := atI_rp (h5.mono e1.mm) e
          exact ⟨a, vs, j, u, rfl, rfl, SqL.of k2, l1, f1 _ _ _ rs.ext0 l2⟩
      | _ => exact f1.elim
/-- a comprehension over a list of one's own -/
def mOItems (i : Nat) : Env → Out (List D) := fun Γ => match ownAt Γ i with
  | some ds => .ok ds
  | none => .bad
theorem i_own {x : Str} {tg : Expr} {pos : Pos} (i : Nat) (hN : X.N[i]? = some x := by rfl) (hv : Vis X.env.scope x := by first | exact Or.inl rfl | exact Or.inr (Or.inl rfl) | exact Or.inr (Or.inr rfl)) (hd : (x == ("__debug__" : Str)) = false := by decide)
    (hcd : (x == ("__classdict__" : Str)) = false := by decide) : PICm X T E tg (.Name x pos) (mOItems i) :=
  weakI (pi_list (pe_var hN hv hd hcd)) fun σ H R h => by
    obtain ⟨Γ, M, H0, r, f⟩ := h
    unfold mOItems at f
    cases q : ownAt Γ i with
    | none =>
      rw [q] at f
      exact f.elim
    | some ds =>
      rw [q] at f
      have hq := ownAt_some q
      obtain ⟨a, vs, h1, h2, h3, h4, h5⟩ := r.own i ds hq
      refine ⟨.ref a, h1, a, rfl, ⟨vs, SqL.of h2⟩, f _ _ _ r.ext0 ⟨fun j M' H' hj e => ?_, fun M' H' e => ?_, fun j M' H' y H'' hj e hy => ?_⟩⟩
      · obtain ⟨k1, k2⟩ := e.out h3 h2 (fun ps z => by cases z)
        exact ⟨vs, vs[j]'(by rw [h5.length]; exact hj), SqL.of k2, by rw [List.getElem?_eq_getElem]⟩
      · obtain ⟨k1, k2⟩ := e.out h3 h2 (fun ps z => by cases z)
        exact ⟨vs, SqL.of k2, by rw [h5.length]; exact Nat.le_refl _⟩
      · obtain ⟨k1, k2⟩ := e.out h3 h2 (fun ps z => by cases z)
        obtain ⟨he, hy⟩ := hy
        subst he
        obtain ⟨d, l1, l2⟩ := h5.get' (hy vs (SqL.of k2))
        exact ⟨d, M', l1, Ext.refl e.ms e.nt, l2.mono e.mm⟩
end FL
set_option Elab.async false
set_option linter.all false
set_option maxRecDepth 100000
set_option maxHeartbeats 2000000
namespace FL
open PySem PySem.Spec PyProof.Rows L2 LamX
variable {K : PySem.W.Frag} {mg : Str → Option Value} {T : List (Addr × Str)} {H0 M0 M M' M1 M2 H H' H1 H2 : Hp} {Γ Γ' : Env} {σ σ' : L2.St} {E : XK} {X : Cx}
def rMaxDef (K : PySem.W.Frag) : List V → List V → Hp → VK → Prop := fun vs zs H Q => ∃ (a : Addr) (ns : List Int) (z : V), vs = [V.ref a] ∧ zs = [z] ∧ SqL K H a (ns.map V.int) ∧ (ns = [] → Q z H) ∧ (ns ≠ [] → Q (.int (maxL ns)) H)
def rMinDef (K : PySem.W.Frag) : List V → List V → Hp → VK → Prop := fun vs zs H Q => ∃ (a : Addr) (ns : List Int) (z : V), vs = [V.ref a] ∧ zs = [z] ∧ SqL K H a (ns.map V.int) ∧ (ns = [] → Q z H) ∧ (ns ≠ [] → Q (.int (minL ns)) H)

theorem maxOf_int (n : Int) (ns : List Int) : PySem.W.maxOf n ns = maxL (n :: ns) := by
  unfold PySem.W.maxOf maxL
  congr 1
  funext a b
  show (if decide (a < b) = true then b else a) = if b > a then b else a
  by_cases h : a < b
  · rw [decide_eq_true h, if_pos rfl, if_pos (show b > a from h)]
  · rw [decide_eq_false h, if_neg Bool.false_ne_true, if_neg (show ¬ b > a from h)]
theorem minOf_int (n : Int) (ns : List Int) : PySem.W.minOf n ns = minL (n :: ns) := by
  unfold PySem.W.minOf minL
  congr 1
  funext a b
  show (if decide (b < a) = true then b else a) = if b < a then b else a
  by_cases h : b < a
  · rw [decide_eq_true h, if_pos rfl, if_pos h]
  · rw [decide_eq_false h, if_neg Bool.false_ne_true, if_neg h]
theorem hold_ints {pins : List (Addr × Obj)} {s : Shared} {ns : List Int} {us : List Value} (I : Inv X pins σ H s) (r : Vals (ns.map V.int) us) : PySem.W.HoldAll s.heap us ns := by
  obtain ⟨as, h⟩ := Dp.readsAll I (ns.map PyData.int) (ns.map V.int) us (ints_dp ns) r
  exact ⟨as, h⟩
theorem reads_int {h : Heap} {v : Value} {n : Int} (x : PySem.W.Holds h v n) : ∃ t, v = .int n t := by
  obtain ⟨as, r⟩ := x
  cases r
  exact ⟨_, rfl⟩
theorem cr_maxDef {k : Nat} (hr : Room k X.A) (hc : X.calm = true) : CallRK X (.builtin "max") [Str.ofString "default"] (rMaxDef X.K) := by
  intro pins s σ H xs zs us ws Q I r rz h
  obtain ⟨a, ns, z, rfl, rfl, hs, q0, q1⟩ := h
  obtain ⟨its, rv, hl, _⟩ := I.list hs
  obtain ⟨w, rfl, rw1⟩ := vals1 rz
  rw [Vals.ref1 r]
  show wpAny _ _ (call (.builtin "max") [.ref a] [(Str.ofString "default", w)]) _ _ _
  refine PySem.W.max_list_datum_default (α := Int) (xs := ns) (I.ok.hd hc) hl.isList (hold_ints I rv) (by have := hr.un; show X.A.units + 1 + 0 < cLine; omega) (fun e h' tk hk => ?_) (fun y ys i v h' tk e hi hv hk => ?_)
  · exact ⟨z, H, I.kept hk, rw1, q0 e⟩
  · subst e
    obtain ⟨t, rfl⟩ := reads_int hv
    rw [maxOf_int]
    exact ⟨.int _, H, I.kept hk, ⟨t, rfl⟩, q1 (by simp)⟩
theorem cr_minDef {k : Nat} (hr : Room k X.A) (hc : X.calm = true) : CallRK X (.builtin "min") [Str.ofString "default"] (rMinDef X.K) := by
  intro pins s σ H xs zs us ws Q I r rz h
  obtain ⟨a, ns, z, rfl, rfl, hs, q0, q1⟩ := h
  obtain ⟨its, rv, hl, _⟩ := I.list hs
  obtain ⟨w, rfl, rw1⟩ := vals1 rz
  rw [Vals.ref1 r]
  show wpAny _ _ (call (.builtin "min") [.ref a] [(Str.ofString "default", w)]) _ _ _
  refine PySem.W.min_list_datum_default (α := Int) (xs := ns) (I.ok.hd hc) hl.isList (hold_ints I rv) (by have := hr.un; show X.A.units + 1 + 0 < cLine; omega) (fun e h' tk hk => ?_) (fun y ys i v h' tk e hi hv hk => ?_)
  · exact ⟨z, H, I.kept hk, rw1, q0 e⟩
  · subst e
    obtain ⟨t, rfl⟩ := reads_int hv
    rw [minOf_int]
    exact ⟨.int _, H, I.kept hk, ⟨t, rfl⟩, q1 (by simp)⟩
def dMaxDef (x z : D) : Out D := onInts (fun ns => if ns.isEmpty then .ok z else .ok (.int (maxL ns))) x
def dMinDef (x z : D) : Out D := onInts (fun ns => if ns.isEmpty then .ok z else .ok (.int (minL ns))) x
theorem tCKw_of {r : List V → List V → Hp → VK → Prop} {f : D → D → Out D} {a b : Env → Out D} (hx : noX f)
    (hd : ∀ x y dx dy M H Q d, Same M H → (∀ a ps, M a ≠ some (.tbl ps)) → Rp K mg M x dx → Rp K mg M y dy → f dx dy = .ok d → (∀ v H' M', Ext T M H M' H' → Rp K mg M' v d → Q v H') → r [x] [y] H Q) {Q : VK} (h : tOf K mg T E (m2 f a b) σ H Q) :
    tCKw r (tCons (tOf K mg T E a) tNil) (tCons (tOf K mg T E b) tNil) σ H Q := by
  obtain ⟨Γ, M, H0, rs, fn⟩ := h
  refine ⟨Γ, M, H0, rs, Fin.bind fn fun x v H1 M1 _ e1 r1 f1 => ?_⟩
  refine ⟨Γ, M1, H0, rs.ext e1, Fin.bind f1 fun y w H2 M2 _ e2 r2 f2 => ?_⟩
  have rs2 := (rs.ext e1).ext e2
  cases q : f x y with
  | ok z =>
    rw [q] at f2
    exact hd v w x y M2 H2 Q z rs2.ms rs2.nt (r1.mono e2.mm) r2 q f2
  | exc c => exact absurd q (hx x y c)
  | bad =>
    rw [q] at f2
    exact f2.elim
theorem dd_ints {f : List Int → D → Out D} {x z : D} {v : V} {d : D} (r : Rp K mg M v x) (h : onInts (fun ns => f ns z) x = .ok d) : ∃ a ns, v = .ref a ∧ M a = some (.lst (ns.map V.int)) ∧ f ns z = .ok d := by
  cases r with
  | @lst a vs xs ha ra =>
    have h : (match toInts xs with | some ns => f ns z | none => .bad) = .ok d := h
    cases e : toInts xs with
    | none => rw [e] at h; cases h
    | some ns =>
      rw [e] at h
      have ev := toInts_rp ra e
      subst ev
      exact ⟨a, ns, rfl, ha, h⟩
  | _ => cases h
theorem nx_maxDef : noX dMaxDef := fun a b c h => (nx_onInts (fun ns c => by split <;> intro h <;> cases h)) a c h
theorem nx_minDef : noX dMinDef := fun a b c h => (nx_onInts (fun ns c => by split <;> intro h <;> cases h)) a c h
theorem e_maxdef {a z : Expr} {ma mz : Env → Out D} {p kp pos : Pos}
    (hP : PE X (.Call (.Name "max" p) [a] [⟨some "default", z, kp⟩] pos) (tCKw (rMaxDef X.K) (tCons (tOf X.K X.mg T E ma) tNil) (tCons (tOf X.K X.mg T E mz) tNil))) :
    PEm X T E (.Call (.Name "max" p) [a] [⟨some "default", z, kp⟩] pos) (m2 dMaxDef ma mz) :=
  weakE hP fun σ H Q h => tCKw_of nx_maxDef (fun x y dx dy M H Q d s nt rx ry hf q => by
    obtain ⟨a, ns, rfl, ha, hf⟩ := dd_ints (f := fun ns z => if ns.isEmpty then .ok z else .ok (.int (maxL ns))) rx hf
    refine ⟨a, ns, y, rfl, rfl, SqL.of (s _ _ ha), fun e => ?_, fun e => ?_⟩
    · subst e
      cases hf
      exact q _ _ _ (Ext.refl s nt) ry
    · have hne : ns.isEmpty = false := by cases ns with | nil => exact absurd rfl e | cons _ _ => rfl
      rw [hne] at hf
      cases hf
      exact q _ _ _ (Ext.refl s nt) (.int _)) h
theorem e_mindef {a z : Expr} {ma mz : Env → Out D} {p kp pos : Pos}
    (hP : PE X (.Call (.Name "min" p) [a] [⟨some "default", z, kp⟩] pos) (tCKw (rMinDef X.K) (tCons (tOf X.K X.mg T E ma) tNil) (tCons (tOf X.K X.mg T E mz) tNil))) :
    PEm X T E (.Call (.Name "min" p) [a] [⟨some "default", z, kp⟩] pos) (m2 dMinDef ma mz) :=
  weakE hP fun σ H Q h => tCKw_of nx_minDef (fun x y dx dy M H Q d s nt rx ry hf q => by
    obtain ⟨a, ns, rfl, ha, hf⟩ := dd_ints (f := fun ns z => if ns.isEmpty then .ok z else .ok (.int (minL ns))) rx hf
    refine ⟨a, ns, y, rfl, rfl, SqL.of (s _ _ ha), fun e => ?_, fun e => ?_⟩
    · subst e
      cases hf
      exact q _ _ _ (Ext.refl s nt) ry
    · have hne : ns.isEmpty = false := by cases ns with | nil => exact absurd rfl e | cons _ _ => rfl
      rw [hne] at hf
      cases hf
      exact q _ _ _ (Ext.refl s nt) (.int _)) h
end FL
set_option Elab.async false
set_option linter.all false
set_option maxRecDepth 100000
set_option maxHeartbeats 2000000
namespace FL
open PySem PySem.Spec PyProof.Rows L2 LamX
open HotX (HotAt)
section
variable {prog : Program} {w : World} {A : Around} {E : Value → Shared → Prop} {s : Shared}
/-- the end of a list that is walked, while an exception is handled -/
theorem list_end_hot {it l x1 : Addr} {i : Nat} {items : Array Value} {Q : Option Value → Shared → Prop} (hot : HotAt A x1 s.heap) (hne : x1 ≠ it) (hit : s.heap.IsListIter it l i) (hl : s.heap.IsList l items) (hx : items[i]? = none)
    (hQ : ∀ h', Heap.ExtBut it s.heap h' → Q none { s with heap := h' }) : wpAny (model prog w) A (pyNext (.ref it)) Q E s := by
  obtain ⟨o, ho, hc, hd⟩ := id hit
  obtain ⟨ol, hol, _, nl, hdl⟩ := hl
  obtain ⟨hh, o1, vs1, h1, d1, c1⟩ := hot
  unfold pyNext
  refine wpAny_bind (wpAny_attempt (wpAny_callSpecial?_slot (name := Str.ofString "__next__") hit.typeIs slot_listiter_next (wpAny_call_entry slot_listiter_next hit.typeIs entry_listiter_next ?_ (args_listiter_next _))))
  show wpAny _ _ (field (.ref it) 0 >>= _) _ _ s
  refine wpAny_bind (wpAny_field ho hd (x := .ref l) rfl ?_)
  show wpAny _ _ (if (Value.ref l == Value.none) = true then _ else _) _ _ s
  rw [if_neg (show ¬ ((Value.ref l == Value.none) = true) from Bool.false_ne_true)]
  show wpAny _ _ (field (.ref it) 1 >>= _) _ _ s
  refine wpAny_bind (wpAny_field ho hd (x := .int i 0) rfl ?_)
  show wpAny _ _ (seqItems? (.ref l) >>= _) _ _ s
  refine wpAny_bind (wpAny_seqItems hol hdl ?_)
  simp only [Int.toNat_natCast, hx]
  refine wpAny_bind (wpAny_rule (wpAny_bind (wpAny_setField ho hd (by simp) ?_)))
  show wpAny _ _ (newExc (.type "StopIteration") [] >>= _) _ _ _
  refine wpAny_bind ?_
  simp only [newExc, newTuple]
  refine wpAny_bind (wpAny_newObj_type ?_ (by size_fits))
  refine wpAny_bind (m := firstArgMember _ _) (wpAny_of_eq (a := Value.none) (by first | rfl | (simp only [firstArgMember]; rfl)) ?_)
  refine wpAny_newObj_type ?_ (by size_fits)
  have k1 : (s.heap.update it (Obj.mapFields (·.setIfInBounds 0 .none))).get? x1 = some o1 := (Heap.get?_update_other _ _ (Ne.symm hne)).trans h1
  refine HotX.raiseNew_hot (x1 := x1) ⟨hh, o1, vs1, Heap.get?_push_of_some _ (Heap.get?_push_of_some _ k1), d1, c1⟩ (Nat.ne_of_lt (Heap.lt_size (Heap.get?_push_of_some _ k1))) (Heap.get?_push_size _ rfl) rfl (by first | (simp; done) | (simp; omega)) ?_
  refine wpAny_bind (wpAny_isInstance (T := "StopIteration") (b := true) ⟨_, Heap.get?_update_self _ (Heap.get?_push_size _ rfl) rfl, rfl⟩ isSubtype_stop ?_)
  refine wpAny_pure (hQ _ fun b u hb e => ?_)
  have e1 : (s.heap.update it (Obj.mapFields (·.setIfInBounds 0 .none))).get? b = some u := (Heap.get?_update_other _ _ (Ne.symm hb)).trans e
  exact (Heap.get?_update_other _ _ (Nat.ne_of_gt (Heap.lt_size (Heap.get?_push_of_some _ e1)))).trans (Heap.get?_push_of_some _ (Heap.get?_push_of_some _ e1))
/-- a list walked there -/
theorem walks_hot {x1 I ax : Addr} {o1 : Obj} {vs1 : Array Value} (hh : A.handled = some (.ref x1)) (d1 : o1.data = .fields vs1) (c1 : vs1[2]? = some .none) (hne : ax ≠ I) (hx : x1 ≠ I) (items : Array Value) :
    Walks prog w A I [I, ax, x1] [I] items.size (fun i v => items[i]? = some v) (fun i h => h.IsListIter I ax i ∧ h.IsList ax items ∧ h.get? x1 = some o1) where
  sub := fun b hb => by simp at hb; simp [hb]
  frame := fun _ _ _ st hk => ⟨st.1.at fun o e => hk I (by simp) o e, st.2.1.at fun o e => hk ax (by simp) o e, hk x1 (by simp) _ st.2.2⟩
  item := fun i s Q E hi st hQ => by
    refine wpAny_pyNext_list_item st.1 st.2.1 (x := items[i]) (by simp [hi]) fun h' hit' hs' => ?_
    exact hQ _ h' s.toks (by simp [hi]) ⟨hit', st.2.1.extBut hs'.extBut hne, hs'.extBut x1 _ hx st.2.2⟩ fun b o hb e => hs'.extBut b o (fun h => hb (by simp [h])) e
  done := fun s Q E st hQ => list_end_hot ⟨hh, o1, vs1, st.2.2, d1, c1⟩ hx st.1 st.2.1 (by simp) fun h' he' => hQ h' s.toks fun b o hb e => he' b o (fun h => hb (by simp [h])) e
  self := fun _ _ _ _ st hQ => wpAny_pyIter_listiter st.1 hQ
theorem sum_hot {l x1 : Addr} {its : List Value} {ns : List Int} {Q : Value → Shared → Prop} (hot : HotAt A x1 s.heap) (hl : s.heap.IsList l its.toArray) (hi : IntsAre its ns)
    (h : ∀ h' tk t', (∀ b o, s.heap.get? b = some o → h'.get? b = some o) → Q (.int ns.sum t') { s with heap := h', toks := tk }) : wpAny (model prog w) A (call (.builtin "sum") [.ref l]) Q E s := by
  obtain ⟨xs, e⟩ := hi.allInts.items
  have hn : numsOf (intItems xs).toList = ns := by rw [← e]; exact hi.numsOf
  rw [nums_intItems] at hn
  rw [e] at hl
  obtain ⟨hh, o1, vs1, h1, d1, c1⟩ := hot
  refine call_sum_walkG (iter_intList hl fun s₂ e2 st hfp hlI => ?_)
  subst e2
  have hlt := Heap.lt_size h1
  refine ⟨_, _, _, _, _, _, numAt xs, rfl, walks_hot (A := A.in1) hh d1 c1 hlI (Nat.ne_of_lt hlt) (intItems xs), ⟨st.1, st.2, Heap.get?_push_of_some _ h1⟩, fun b hb => ?_, (fun _ _ => intItems_at), fun h' tk t' hk => ?_⟩
  · have z : b ∈ [s.heap.objs.size, l] ∨ b = x1 := by
      simp only [List.mem_cons, List.not_mem_nil, or_false] at hb ⊢
      rcases hb with z | z | z
      · exact .inl (.inl z)
      · exact .inl (.inr z)
      · exact .inr z
    rcases z with z | z
    · exact hfp b z
    · subst z
      show b < (s.heap.push _).objs.size
      rw [Heap.size_push]
      exact Nat.lt_succ_of_lt hlt
  · have q := h h' tk t' (old_kept hk)
    have ez : preSum (numAt xs) (intItems xs).size = ns.sum := by
      rw [show (intItems xs).size = xs.size by simp [intItems], preSum_eq, List.take_of_length_le (by simp), hn]
    rw [ez]
    exact q
end
section
variable {X : Cx}
theorem cr_sumH (hc : L2H.HotC X) : CallR X (.builtin "sum") (rSum X.K) := by
  intro pins s σ H vs us Q I r h
  obtain ⟨a, ns, rfl, hs, q⟩ := h
  obtain ⟨its, rv, hl, _⟩ := I.list hs
  obtain ⟨x1, hot⟩ := hc.at I
  rw [Vals.ref1 r]
  exact sum_hot hot hl.isList rv.ints fun h' tk t' hk => ⟨.int _, H, I.kept hk, ⟨_, rfl⟩, q⟩
/-- [elt for x in list], no test, while an exception is handled -/
def tLcH (K : PySem.W.Frag) (j : Nat) (tl te : TE) : TE := fun σ H Q => tl σ H fun v H1 => ∃ a xs, v = .ref a ∧ SqL K H1 a xs ∧ ∀ D, H1 D = none → ∃ W : Nat → Hp → Prop, W 0 (upd H1 D (.lst [])) ∧ (∀ i H, W i H → SqL K H a xs) ∧
  (∀ i H x, W i H → xs[i]? = some x → te ((L2.wipe σ [j]).set j (some x)) H fun y H4 => ∃ acc, H4 D = some (.lst acc) ∧ acc.length < sizeLine ∧ W (i + 1) (upd H4 D (.lst (acc ++ [y])))) ∧ ∀ H, W xs.length H → Q (.ref D) H
theorem pe_lcH {elt iter : Expr} {x : Str} {px pos : Pos} {scope : Scope} {j : Nat} {tl te : TE} (hot : L2H.HotC X) (hN : X.N.Nodup) (hi : PE X iter tl) (ok : BlkOk X.N X.env.scope scope [(x, j)])
    (hg : ∀ (s : Shared) (H : Hp) (C : Addr) (cl : List (Str × Addr)) (fp : List Addr), PG (Blk X scope s H C cl fp) (.Name x px) (gName j))
    (he : ∀ (s : Shared) (H : Hp) (C : Addr) (cl : List (Str × Addr)) (fp : List Addr), PE (Blk X scope s H C cl fp) elt te) (hs : ∀ y, foldedSetIterable iter X.env y = pure y := by intro _; rfl) :
    PE X (.ListComp elt [⟨.Name x px, iter, [], 0⟩] scope pos) (tLcH X.K j tl te) := by
  refine ⟨fun pins s σ H Q I h => ?_⟩
  rw [eval_ListComp]
  obtain ⟨p, ⟨hh, v1, d1, c1⟩, hp⟩ := hot
  have hfree : ∀ y ∈ scope.names, y.2 = .free → ∃ c, X.env.cells.lookup y.1 = some c := fun y hy e => by
    rcases ok.free y hy e with k | k
    · exact I.ok.has _ (.inl k)
    · exact I.ok.has _ (.inr k)
  refine wpAny_comprehension_free (use := none) rfl hs (closure_ok hfree) ok.kind (fun y hy e => by rw [ok.uniq y hy, e]) (thn (hi.run pins s σ H _ I h) fun v s1 ⟨w1, H1, I1, r1, q1⟩ => ?_)
  obtain ⟨a, xs, rfl, hq, q⟩ := q1
  cases r1
  obtain ⟨its, rv, pl, hz⟩ := I1.list hq
  have lt1 := rv.length
  refine wpAny_pyIter_list pl.isList ?_
  have I2 : Inv X pins σ H1 { s1 with heap := s1.heap.push { cls := .type "list_iterator", data := .fields #[.ref a, .int 0 0] } } := I1.kept (t' := s1.toks) fun b o e => Heap.get?_push_of_some _ e
  generalize hit : s1.heap.objs.size = it
  have st2 : (s1.heap.push { cls := .type "list_iterator", data := .fields #[.ref a, .int 0 0] }).IsListIter it a 0 := by
    rw [← hit]
    exact ⟨_, Heap.get?_push_size _ rfl, rfl, rfl⟩
  have f2 : FpOk X pins H1 it := by
    rw [← hit]
    exact I1.fpOk (Nat.le_refl _) (I1.hok.fresh (Nat.le_refl _))
  have hit2 : it < (s1.heap.push { cls := .type "list_iterator", data := .fields #[.ref a, .int 0 0] }).objs.size := by
    rw [Heap.size_push, hit]
    exact Nat.lt_succ_self _
  generalize hs2 : ({ s1 with heap := s1.heap.push { cls := .type "list_iterator", data := .fields #[.ref a, .int 0 0] } } : Shared) = s2 at I2 ⊢
  have h2 : s2.heap = s1.heap.push { cls := .type "list_iterator", data := .fields #[.ref a, .int 0 0] } := by rw [← hs2]
  rw [← h2] at st2 hit2
  refine wpAny_newObj_type (newEnv_comp ?_) (by show 0 ≤ sizeLine; decide)
  generalize hD : s2.heap.objs.size = D
  have hDn : H1 D = none := I2.hok.fresh (Nat.le_of_eq hD)
  obtain ⟨W, w0, wl, turn, fin⟩ := q D hDn
  generalize hs3 : ({ s2 with heap := s2.heap.push { cls := .type "list", data := .seq ([] : List Value).toArray } } : Shared) = s3
  have I3 : Inv X pins σ (upd H1 D (.lst [])) s3 := by
    rw [← hs3]
    refine I2.laid (t' := s2.toks) (fun b o e => Heap.get?_push_of_some _ e) (Nat.le_of_eq hD) ⟨Nat.zero_le _, [], 0, .nil, ?_⟩
    rw [← hD]
    exact Heap.get?_push_size _ rfl
  have h3 : s3.heap = s2.heap.push { cls := .type "list", data := .seq ([] : List Value).toArray } := by rw [← hs3]
  have hDit : D ≠ it := by rw [← hD]; exact Nat.ne_of_gt hit2
  have f3 : FpOk X pins (upd H1 D (.lst [])) it ∧ it < s3.heap.objs.size := by
    refine ⟨⟨?_, f2.2⟩, by rw [h3, Heap.size_push]; exact Nat.lt_succ_of_lt hit2⟩
    rw [upd_ne (Ne.symm hDit)]
    exact f2.1
  have st3 : s3.heap.IsListIter it a 0 := st2.at fun o e => by rw [h3]; exact Heap.get?_push_of_some _ e
  have f3' : ∀ b ∈ [it], FpOk X pins (upd H1 D (.lst [])) b ∧ b < s3.heap.objs.size := fun b hb => by
    have e : b = it := by simpa using hb
    subst e
    exact f3
  have I4 := block_start I3 ok hN f3'
  have pg : PG (X.blk s3 (upd H1 D (.lst [])) scope (compEnvC scope (cellsFrom (s3.heap.objs.size + 1) scope.names (cloFrom X.env.cells scope.names [])) s3.heap.objs.size X.env) [it]) (.Name x px) (gName j) :=
    hg s3 (upd H1 D (.lst [])) s3.heap.objs.size (cellsFrom (s3.heap.objs.size + 1) scope.names (cloFrom X.env.cells scope.names [])) [it]
  have pe : PE (X.blk s3 (upd H1 D (.lst [])) scope (compEnvC scope (cellsFrom (s3.heap.objs.size + 1) scope.names (cloFrom X.env.cells scope.names [])) s3.heap.objs.size X.env) [it]) elt te := he s3 (upd H1 D (.lst [])) s3.heap.objs.size (cellsFrom (s3.heap.objs.size + 1) scope.names (cloFrom X.env.cells scope.names [])) [it]
  have P3 := I3.pin p (List.mem_append_left _ hp)
  show codeAny _ _ (.compStart (.ListComp elt [⟨.Name x px, iter, [], 0⟩] scope pos) 0 (.ref it) (.ref D) (compEnvC scope (cellsFrom (s3.heap.objs.size + 1) scope.names (cloFrom X.env.cells scope.names [])) s3.heap.objs.size X.env)) _ { s3 with heap := pushCells (s3.heap.push { cls := .type "dict", data := .dict #[] }) scope.names }
  generalize hce : compEnvC scope (cellsFrom (s3.heap.objs.size + 1) scope.names (cloFrom X.env.cells scope.names [])) s3.heap.objs.size X.env = ce at I4 pg pe ⊢
  have cL : ce.locals = s3.heap.objs.size := by subst hce; rfl
  generalize hH3 : upd H1 D (.lst []) = H3 at I3 I4 pg pe w0 f3 f3' P3
  have kp4 : ∀ b o, s3.heap.get? b = some o → (pushCells (s3.heap.push { cls := .type "dict", data := .dict #[] }) scope.names).get? b = some o := fun b o e => pushCells_keeps _ _ _ _ (Heap.get?_push_of_some _ e)
  generalize hs4 : ({ s3 with heap := pushCells (s3.heap.push { cls := .type "dict", data := .dict #[] }) scope.names } : Shared) = s4 at I4 ⊢
  have h4 : s4.heap = pushCells (s3.heap.push { cls := .type "dict", data := .dict #[] }) scope.names := by rw [← hs4]
  rw [← h4] at kp4
  have st4 : s4.heap.IsListIter it a 0 := st3.at fun o e => kp4 _ _ e
  have nst : p.1 ∉ frs X.stack := fun z => (List.mem_cons.mp (I3.stkSub p.1 z)).elim P3.2.2.1 P3.2.2.2.1
  have pnit : p.1 ≠ it := fun z => f3.1.2.2.2.2.2 p (List.mem_append_left _ hp) z
  -- the handled exception is carried along
  have J4 : Inv (X.blk s3 H3 scope ce [it]) [p] (L2.wipe σ [j]) H3 s4 := I4.pins_of fun q hq => by
    have eq : q = p := by simpa using (show q ∈ ([] : List (Addr × Obj)) ++ [p] from hq)
    subst eq
    refine ⟨kp4 _ _ P3.1, P3.2.1, ?_, nst, P3.2.2.2.2⟩
    show q.1 ≠ ce.locals
    rw [cL]
    exact Nat.ne_of_lt (Heap.lt_size P3.1)
  have fpk : ∀ {σ' : L2.St} {H' : Hp} {s' : Shared}, Inv (X.blk s3 H3 scope ce [it]) [p] σ' H' s' → H' it = none → FpOk (X.blk s3 H3 scope ce [it]) [p] H' it := fun {σ' H' s'} I' hn =>
    ⟨hn, (I'.ok.exf it List.mem_cons_self).1, I'.ok.exfs it List.mem_cons_self, .inl List.mem_cons_self, fun y c e => (I'.ok.exf it List.mem_cons_self).2 y c e, fun q hq => by
      have eq : q = p := by simpa using (show q ∈ ([] : List (Addr × Obj)) ++ [p] from hq)
      subst eq
      exact pnit⟩
  have loop : codeAny (model X.prog X.w) X.A (.compLoop (.ListComp elt [⟨.Name x px, iter, [], 0⟩] scope pos) 0 (.ref it) (.ref D) ce) (compPost (model X.prog X.w) X.A X.xe none (EP X pins σ Q) (.ref D) s3.heap.objs.size) s4 := by
    refine compLoop_any (fun n s' => ∃ i H', n = xs.length - i ∧ i ≤ xs.length ∧ Inv (X.blk s3 H3 scope ce [it]) [p] (L2.wipe σ [j]) H' s' ∧ s'.heap.IsListIter it a i ∧ H' it = none ∧ W i H') ?_ xs.length ⟨0, H3, rfl, Nat.zero_le _, J4, st4, f3.1.1, w0⟩
    rintro n s5 ⟨i, H5, rfl, hi5, I5, st5, n5, w5⟩
    have hq5 := wl i H5 w5
    obtain ⟨its5, rv5, pl5, hz5⟩ := I5.list hq5
    have l5 := rv5.length
    obtain ⟨g0, g1, g2, g3, g4, g5⟩ := fpk I5 n5
    by_cases hlt : i < xs.length
    · have hx5 : xs[i]? = some xs[i] := List.getElem?_eq_getElem hlt
      obtain ⟨u, hu, ru⟩ := rv5.get hx5
      refine wpAny_pyNext_list_item st5 pl5.isList (x := u) (by simpa using hu) fun h6 st6 sb6 => ?_
      have I6 : Inv (X.blk s3 H3 scope ce [it]) [p] (L2.wipe σ [j]) H5 { s5 with heap := h6 } := I5.turned (t' := s5.toks) (fun b o hb e => (sb6.2 b hb).trans e) g0 g1 g3 g4 g5
      obtain ⟨o6, e6, c6, d6⟩ := id st6
      refine go_of (s := { s5 with heap := h6 }) e6 c6 d6 (by decide) ?_
      have I6' := I6.pinned (fp := [it]) (fun b hb => by
        have e : b = it := by simpa using hb
        subst e
        exact fpk I6 n5) (fun b hb => by
        have e : b = it := by simpa using hb
        subst e
        exact ⟨o6, e6, fun v z => by rw [d6] at z; cases z⟩)
      refine thnF (pg.run _ _ _ H5 xs[i] u (fun σ2 H2 => σ2 = (L2.wipe σ [j]).set j (some xs[i]) ∧ H2 = H5) I6' ru ⟨rfl, rfl⟩) fun _ s8 ⟨σ8, H8, I8, e8, e8'⟩ => ?_
      subst e8 e8'
      refine wpAny_pure ?_
      show wpAny _ _ (eval elt ce) _ _ s8
      refine thnF (pe.run _ s8 _ H8 _ I8 (turn i H8 xs[i] w5 hx5)) fun z s10 ⟨yv, H10, I10, r10, acc, hD10, hz10, nx⟩ => ?_
      refine app_ok (X := X.blk s3 H3 scope ce [it]) I10 hD10 hz10 r10 fun s11 I11 => ?_
      have pin' : s11.heap.get? it = some o6 ∧ (upd H10 D (.lst (acc ++ [yv]))) it = none := by
        have z := I11.pin (it, o6) (List.mem_append_right _ (List.mem_append_right _ (mem_pinsAt List.mem_cons_self e6)))
        exact ⟨z.1, z.2.1⟩
      refine ⟨xs.length - (i + 1), by omega, i + 1, _, rfl, hlt, (I11.unpinned (pins := [p])).weak (by rw [List.length_set]) (fun k v e => ?_), ⟨o6, pin'.1, c6, d6⟩, pin'.2, nx⟩
      have e' : (L2.wipe σ [j])[k]? = some (some v) := e
      by_cases hk : j = k
      · subst hk
        exact absurd (wipe_some e').2 (by simp)
      · rw [List.getElem?_set_ne hk]
        exact e'
    · have ei : i = xs.length := by omega
      subst ei
      have hp5 := I5.pin p (List.mem_append_right _ List.mem_cons_self)
      refine list_end_hot ⟨hh, p.2, v1, hp5.1, d1, c1⟩ pnit st5 pl5.isList (by simp; omega) fun h6 eb => ?_
      have I6 : Inv (X.blk s3 H3 scope ce [it]) [p] (L2.wipe σ [j]) H5 { s5 with heap := h6 } := I5.turned (t' := s5.toks) (fun b o hb e => eb b o hb e) g0 g1 g3 g4 g5
      have I7 : Inv X pins σ H5 { s5 with heap := h6 } := I3.call' (ch := [it]) I6.os I6.base I6.hok I6.bare fun b hb => ⟨(f3' b hb).1.2.2.2.1, (f3' b hb).1.2.1, (f3' b hb).1.2.2.2.2.1, (f3' b hb).1.2.2.2.2.2⟩
      have nC : H5 s3.heap.objs.size = none := by
        have z : H5 ce.locals = none := I6.free
        rw [cL] at z
        exact z
      obtain ⟨m, hn, _⟩ := I6.loc
      have hn : h6.Ns ce.locals m := hn
      rw [cL] at hn
      obtain ⟨k0, k1, k2, k3, k4, k5⟩ := I3.fpOk (H' := H5) (Nat.le_refl _) nC
      refine ⟨m, hn, fun h'' sb => ?_⟩
      exact ⟨.ref D, H5, I7.turned (t' := s5.toks) (fun b o hb e => (sb.2 b hb).trans e) k0 k1 k3 k4 k5, rfl, fin H5 w5⟩
  exact codeAny_compStart_list loop (wpAny_pyIter_listiter st4 loop)
end
end FL
set_option Elab.async false
set_option linter.all false
set_option maxRecDepth 100000
set_option maxHeartbeats 2000000
namespace FL
open PySem PySem.Spec PyProof.Rows L2 LamX
variable {K : PySem.W.Frag} {mg : Str → Option Value} {T : List (Addr × Str)} {H0 M0 M M' M1 M2 H H' H1 H2 : Hp} {Γ Γ' : Env} {σ σ' : L2.St} {E : XK} {X : Cx}
/-! ### what runs while an exception is handled -/
theorem b_sumH (hc : L2H.HotC X) (hm : X.mg "sum" = none) : Bt X T "sum" (c1 dSum) := .fn (cr_sumH hc) cd_sum (nx_c1 nx_sum) hm (by decide +kernel) (by decide) (by decide)
/-- the items of a list -/
def mItL (m : Env → Out D) : Env → Out (List D) := fun Γ => (m Γ).bind fun d => match d with
  | .lst ds => .ok ds
  | _ => .bad
theorem tLcH_of {j : Nat} {m elt : Env → Out D} {Q : VK} (h : tOf K mg T E (mComp [j] (.nm j) (mItL m) tYesM elt) σ H Q) : tLcH K j (tOf K mg T E m) (tOf K mg T E0 elt) σ H Q := by
  obtain ⟨Γ, M, H0, r, f⟩ := h
  refine ⟨Γ, M, H0, r, ?_⟩
  unfold mComp mItL at f
  cases qm : m Γ with
  | exc c =>
    rw [qm] at f
    exact f
  | bad =>
    rw [qm] at f
    exact f
  | ok d =>
    rw [qm] at f
    intro v H1 M1 e1 r1
    have f1 := Fin.up f e1
    have rs1 := r.ext e1
    cases r1 with
    | @lst a vs ds ha ra =>
      refine ⟨a, vs, rfl, SqL.of (rs1.ms _ _ ha), fun Da hD => ?_⟩
      have f1 : Fin K mg T M1 H1 Q E (match compL (.nm j) tYesM elt (wipeE Γ [j]) ds with | .ok ys => dLst ys | _ => .bad) := f1
      cases qc : compL (.nm j) tYesM elt (wipeE Γ [j]) ds with
      | exc c => rw [qc] at f1; exact f1.elim
      | bad => rw [qc] at f1; exact f1.elim
      | ok ys =>
        rw [qc] at f1
        by_cases hlen : ys.length ≤ LIM
        · have f1 : Fin K mg T M1 H1 Q E (if ys.length ≤ LIM then Out.ok (.lst ys) else .bad) := f1
          rw [if_pos hlen] at f1
          have mD : M1 Da = none := by
            cases q : M1 Da with
            | none => rfl
            | some u =>
              have z := rs1.ms _ _ q
              rw [hD] at z
              cases z
          have frD : Fr H1 Da := fun u hu => by rw [hD] at hu; cases hu
          refine ⟨fun i H => i ≤ ds.length ∧ ∃ M acc done rest, Ext T M1 H1 M H ∧ H Da = some (.lst acc) ∧ M Da = none ∧ RpL K mg M acc done ∧ compL (.nm j) tYesM elt (wipeE Γ [j]) (ds.drop i) = .ok rest ∧ done ++ rest = ys ∧ Tabs T H,
            ⟨Nat.zero_le _, M1, [], [], ys, Ext.grow rs1.ms rs1.nt (same_upd hD), upd_same, mD, .nil, qc, rfl, rs1.tb.ext (same_upd hD)⟩, ?_, ?_, ?_⟩
          · rintro i H3 ⟨hi, M3, acc, done, rest, e3, _⟩
            exact SqL.of (e3.ms _ _ (e3.mm _ _ ha))
          · rintro i H3 x ⟨hi, M3, acc, done, rest, e3, hA, mA, rA, hc3, hy3, tb3⟩ hx
            obtain ⟨d, hd, rd⟩ := ra.get' hx
            have hlt : i < ds.length := by
              by_cases h : i < ds.length
              · exact h
              · rw [List.getElem?_eq_none (by omega)] at hd
                cases hd
            have hdr : ds.drop i = d :: ds.drop (i + 1) := by
              rw [List.drop_eq_getElem_cons hlt]
              rw [List.getElem?_eq_getElem hlt] at hd
              cases hd
              rfl
            rw [hdr] at hc3
            have hc3 : (match elt ((wipeE Γ [j]).set j (some (.dat d))) with
              | .ok y => (match compL (.nm j) tYesM elt (wipeE Γ [j]) (ds.drop (i + 1)) with
                | .ok ys => Out.ok (y :: ys)
                | _ => .bad)
              | _ => .bad) = .ok rest := hc3
            have rw3 : Rs K mg T H0 M3 H3 (wipeE Γ [j]) (L2.wipe σ [j]) := (rs1.wipe [j]).ext e3
            refine ⟨_, M3, H0, rw3.set j (rd.mono e3.mm), ?_⟩
            cases q7 : elt ((wipeE Γ [j]).set j (some (.dat d))) with
            | exc x => rw [q7] at hc3; cases hc3
            | bad => rw [q7] at hc3; cases hc3
            | ok y =>
              rw [q7] at hc3
              have hc3 : (match compL (.nm j) tYesM elt (wipeE Γ [j]) (ds.drop (i + 1)) with
                | .ok ys => Out.ok (y :: ys)
                | _ => .bad) = .ok rest := hc3
              cases q8 : compL (.nm j) tYesM elt (wipeE Γ [j]) (ds.drop (i + 1)) with
              | exc x => rw [q8] at hc3; cases hc3
              | bad => rw [q8] at hc3; cases hc3
              | ok rest2 =>
                rw [q8] at hc3
                cases hc3
                intro v H8 M8 e8 r8
                obtain ⟨mA8, hA8⟩ := e8.out mA hA (fun ps z => by cases z)
                refine ⟨acc, hA8, ?_, hlt, M8, acc ++ [v], done ++ [y], rest2, (e3.trans e8).mut mA8 hA8 frD, upd_same, mA8, (rA.mono e8.mm).append (.cons r8 .nil), q8, by rw [List.append_assoc]; exact hy3, tabs_upd (e8.tb tb3) hA8⟩
                rw [rA.length, sizeLine_eq]
                have hz : (done ++ (y :: rest2)).length ≤ LIM := by rw [hy3]; exact hlen
                rw [List.length_append, List.length_cons] at hz
                unfold LIM at hz
                omega
          · rintro H3 ⟨hi, M3, acc, done, rest, e3, hA, mA, rA, hc3, hy3, tb3⟩
            rw [ra.length, List.drop_length] at hc3
            cases hc3
            rw [List.append_nil] at hy3
            subst hy3
            have mm : Same M3 (upd M3 Da (.lst acc)) := same_upd mA
            refine f1 (.ref Da) H3 (upd M3 Da (.lst acc)) ⟨e3.kp, e3.tb, e3.mm.trans mm, fun b o hb => ?_, fun b ps hb => ?_, fun b o hb => ?_⟩ (.lst upd_same (rA.mono mm))
            · by_cases q : b = Da
              · subst q
                rw [upd_same] at hb
                rw [← hb]
                exact hA
              · rw [upd_ne q] at hb
                exact e3.ms b o hb
            · by_cases q : b = Da
              · subst q
                rw [upd_same] at hb
                cases hb
              · rw [upd_ne q] at hb
                exact e3.nt b ps hb
            · by_cases q : b = Da
              · subst q
                exact .inr frD
              · rw [upd_ne q] at hb
                exact e3.nw b o hb
        · have f1 : Fin K mg T M1 H1 Q E (if ys.length ≤ LIM then Out.ok (.lst ys) else .bad) := f1
          rw [if_neg hlen] at f1
          exact f1.elim
    | _ => exact f1.elim
theorem e_lcH {elt iter : Expr} {x : Str} {px pos : Pos} {scope : Scope} {m me : Env → Out D} (j : Nat) (hot : L2H.HotC X) (hN : X.N.Nodup) (hi : PEm X T E iter m) (ok : BlkOk X.N X.env.scope scope [(x, j)])
    (hg : ∀ (s : Shared) (H : Hp) (C : Addr) (cl : List (Str × Addr)) (fp : List Addr), PG (Blk X scope s H C cl fp) (.Name x px) (gP X.K (.nm j)))
    (he : ∀ (s : Shared) (H : Hp) (C : Addr) (cl : List (Str × Addr)) (fp : List Addr), PEm (Blk X scope s H C cl fp) T E0 elt me) (hs : ∀ y, foldedSetIterable iter X.env y = pure y := by intro _; rfl) :
    PEm X T E (.ListComp elt [⟨.Name x px, iter, [], 0⟩] scope pos) (mComp [j] (.nm j) (mItL m) tYesM me) :=
  weakE (pe_lcH hot hN hi ok hg he hs) fun _ _ _ h => tLcH_of h

/-- isinstance(e, c), e a pinned exception of the class at D -/
theorem call_isP {a D : Addr} {oe : Obj} (C : ExcC X.K D) (hz : Zc (.ref D) none oe) (hf : ∃ vs, oe.data = .fields vs) (hp : (a, oe) ∈ X.pn) : CallR X (.builtin "isinstance") (rIsE X.K D a) := by
  intro pins s σ H xs us Q I r h
  obtain ⟨c, cv, b, rfl, hcv, e, q⟩ := h
  obtain ⟨u1, u2, rfl, rx, rt⟩ := vals2 r
  cases rx
  have ec := hcv _ rt
  subst ec
  obtain ⟨hget, _⟩ := I.pin (a, oe) (List.mem_append_left _ hp)
  obtain ⟨vs, hv⟩ := hf
  have J : PySem.W.InstAt s.heap a oe D none := by
    obtain ⟨oc, od, oda, osl⟩ := oe
    obtain ⟨h1, h2⟩ := hz
    dsimp only at h1 h2 hv
    subst h1 h2 hv
    exact ⟨hget, rfl, rfl, trivial⟩
  exact PySem.W.kia_one (PySem.W.handS_kitx_exc C.hg C.hk C.hs C.hd C.ha C.hn C.ht C.hm) I.kIn J e (fun z => nomatch z) fun tk => ⟨.bl b, H, I.tok tk, rfl, q⟩
/-- the class of the name c, at D, among the classes of these names -/
structure WordK (K : PySem.W.Frag) (mg : Str → Option Value) (ns : List Str) (c : Str) (D : Addr) : Prop where
  ex : ExcC K D
  ve : PySem.W.kitOne K (.ref D) (.type "ValueError") = some true
  is : ∀ y ∈ ns, ∀ C, mg y = some (.ref C) → PySem.W.kitOne K (.ref D) (.ref C) = some (decide (y = c))
def dIsW (ns : List Str) (c : Str) (a : Addr) : D → D → Out D
  | .opq a', .fn y => if a' = a ∧ y ∈ ns then .ok (.bl (decide (y = c))) else .bad
  | .opq a', .ty n => if a' = a ∧ n = "ValueError" then .ok (.bl true) else .bad
  | _, _ => .bad
theorem nx_isW {ns : List Str} {c : Str} {a : Addr} : noX (dIsW ns c a) := fun x y z h => by
  unfold dIsW at h
  split at h
  · split at h <;> cases h
  · split at h <;> cases h
  · cases h
theorem cd_isW {ns : List Str} {c : Str} {a D : Addr} (W : WordK K mg ns c D) : CallD K mg T (rIsE K D a) (c2 (dIsW ns c a)) := cd_2 fun x y dx dy M H Q d s nt rx ry hf q => by
  cases rx with
  | opq a' =>
    cases ry with
    | @fn yn f hm =>
      have hf : (if a' = a ∧ yn ∈ ns then Out.ok (.bl (decide (yn = c))) else .bad) = .ok d := hf
      by_cases h : a' = a ∧ yn ∈ ns
      · rw [if_pos h] at hf
        cases hf
        obtain ⟨rfl, h2⟩ := h
        exact ⟨.ref f, .ref f, _, rfl, fun u r => r, W.is yn h2 f hm, q _ _ _ (Ext.refl s nt) (.bl _)⟩
      · rw [if_neg h] at hf
        cases hf
    | ty n =>
      have hf : (if a' = a ∧ n = "ValueError" then Out.ok (.bl true) else .bad) = .ok d := hf
      by_cases h : a' = a ∧ n = "ValueError"
      · rw [if_pos h] at hf
        cases hf
        obtain ⟨rfl, rfl⟩ := h
        exact ⟨.ty "ValueError", .type "ValueError", _, rfl, fun u r => r, W.ve, q _ _ _ (Ext.refl s nt) (.bl _)⟩
      · rw [if_neg h] at hf
        cases hf
    | _ => cases hf
  | _ => cases ry <;> cases hf
theorem b_isW {ns : List Str} {c : Str} {a D : Addr} {oe : Obj} (W : WordK X.K X.mg ns c D) (hz : Zc (.ref D) none oe) (hf : ∃ vs, oe.data = .fields vs) (hp : (a, oe) ∈ X.pn) (hm : X.mg "isinstance" = none) : Bt X T "isinstance" (c2 (dIsW ns c a)) :=
  .fn (call_isP W.ex hz hf hp) (cd_isW W) (nx_c2 nx_isW) hm (by decide +kernel) (by decide) (by decide)
/-- a def of one argument, the handled exception itself, called while it is handled -/
theorem pe_hot {x : Str} {params : Arguments} {body : List Stmt} {scope : Scope} {f a : Addr} {fd : FuncData} {N : List Str} {pr : Str} {k : Nat} {m : Env → SO} {oe : Obj} {e : Expr} {te : TE} {q pos : Pos} {d : D} (F : FunD X.K x x params body scope [] [] f fd) (S : FnScope N [pr] scope) (hg : Gl X x) (hm : X.mg x = some (.ref f))
    (hb : ∀ (kV doc pm : Value) (an : Option Addr) (cdv ct : Value) (us : List Value), us.length = 1 → bindArgs (PySem.W.fnOf x x params body scope .none kV doc pm an cdv ct) ⟨us, []⟩ = pure (([pr] : List Str).zip us))
    (hr : L2H.RoomH (k + 1) X.A) (hot : L2H.Hot1 X.A (a, oe)) (hp : (a, oe) ∈ X.pn) (he : PE X e te)
    (hbody : ∀ (cdv : Value) (A : Around) (outer : List PySem.Env) (s : Shared) (H : Hp), L2H.RoomH k (A.deeper (envOfC x scope s.heap.objs.size f cdv)) → L2H.Hot1 A (a, oe) →
      PSsm (L2H.cxH CX0 X.prog X.w X.K X.mg X.base N x scope f cdv A outer s H E0 (a, oe)).nox T E0 body m)
    (hd : defM 1 (N.length - 1) m [.opq a] = .ok d) (hdb : (x == ("__debug__" : Str)) = false := by decide) (hs : starEach [e] X.env = (false, eval e X.env) :: starEach [] X.env := by rfl) :
    PE X (.Call (.Name x q) [e] [] pos) (fun σ H Q => te σ H fun v H1 => v = .ref a ∧ Tabs T H1 ∧ ∀ v' H' M', Ext T (fun _ => none) H1 M' H' → Rp X.K X.mg M' v' d → Q v' H') := by
  refine ⟨fun pins s σ H Q I h => ?_⟩
  refine wpAny_Call_Name_kw (ld_glob I hg hm ?_ hdb)
  refine PySem.W.callWith_K (h₀ := X.base) I.ok.mod.kin F.kp (thn ((pa_cons he pa_nil hs).run pos pins s σ H (fun vs H1 => match vs with
    | [v] => v = .ref a ∧ Tabs T H1 ∧ ∀ v' H' M', Ext T (fun _ => none) H1 M' H' → Rp X.K X.mg M' v' d → Q v' H'
    | _ => False) I h) fun us s1 ⟨vs, H1, I1, r1, q1⟩ => ⟨I1.kIn, ?_⟩) hs rfl
  obtain ⟨v, rfl⟩ : ∃ v, vs = [v] := by
    cases vs with
    | nil => exact q1.elim
    | cons v t =>
      cases t with
      | nil => exact ⟨v, rfl⟩
      | cons _ _ => exact q1.elim
  obtain ⟨hv, htb, hQ⟩ := q1
  subst hv
  obtain ⟨u1, rfl, ru⟩ := vals1 r1
  cases ru
  have P1 := I1.pin (a, oe) (List.mem_append_left _ hp)
  have hpin : L2H.PinOk X.stack H1 s1 (a, oe) := ⟨P1.1, P1.2.1, fun hm => (List.mem_cons.mp (I1.stkSub a hm)).elim P1.2.2.1 P1.2.2.2.1, P1.2.2.2.2⟩
  have b := F.bindsA (ps := [pr]) hb s1 [.ref a] rfl
  obtain ⟨oc, od, dV, kV, doc, pm, an, cdv, ct, osl, rfl, lk, hcd, _, _⟩ := F.ex
  have e0 := I1.env0
  have lim : s1.heap.NoLimit := I1.nolimit
  have KX : X.K.In s1.heap := I1.kIn
  have hkind : ∀ y ∈ ([pr] : List Str).zip [Value.ref a], scope.names.lookup y.1 = some .local ∨ (scope.names.lookup y.1 = some .cell ∧ ((cellsFrom (s1.heap.objs.size + 1) scope.names []).lookup y.1).isSome = true) := fun ⟨n, v⟩ hy => by
    rcases S.par n (List.of_mem_zip hy).1 with q | q
    · exact .inl q
    · exact .inr ⟨q, PySem.W.cellsFrom_some _ _ _ (.inl q)⟩
  have run : codeAny (model X.prog X.w) X.A (.call (.ref f) ⟨[.ref a], []⟩) (CR CX0 X.stack X.prog X.w H1 s1 Q E0) s1 := by
    refine codeAny_call_function hr.depth (KX _ _ lk) rfl S.co S.gen rfl (PySem.W.codeRec_of KX hcd) (b _ _ _ _ ?_)
    refine wpAny_newFunctionEnv_cells S.kind hkind fun env he s2 xc => ?_
    subst he
    refine ⟨lim.keeps xc.toInCall.keep, codeAny_func ?_⟩
    have J : L2.Inv (L2H.cxH CX0 X.prog X.w X.K X.mg X.base N x scope f cdv X.A X.stack s1 H1 E0 (a, oe)) [] (L2.start N [.ref a]) H1 s2 := L2H.inv_startH S hpin e0 rfl (.cons rfl .nil) xc
    have hq : sOf X.K X.mg T E0 m { nx := fun _ H' => Q .non H', rt := Q } (L2.start N [.ref a]) H1 := by
      refine body_of (n := 1) ⟨rfl, htb, fun _ => none, [.opq a], (fun b o z => by cases z), (fun b ps z => by cases z), .cons (.opq a) .nil, ?_⟩
      rw [hd]
      exact hQ
    refine wpAny_mono (((hbody cdv X.A X.stack s1 H1 (hr.deeper _) hot).nox).run [] s2 (L2.start N [.ref a]) H1 _ J hq) (fun fl s' hs => ?_) fun e s' hs => hs
    have fin : ∀ {σ' : L2.St} {H' : Hp} {v : V} {u : Value}, L2.Inv (L2H.cxH CX0 X.prog X.w X.K X.mg X.base N x scope f cdv X.A X.stack s1 H1 E0 (a, oe)) [] σ' H' s' → L2.RelV v u → Q v H' → CE X.stack X.prog X.w H1 s1 Q u s' :=
      fun {σ' H' v u} J rv q => ⟨v, H', J.os, J.bare, J.base, J.hok, rv, q⟩
    cases fl with
    | ret u =>
      obtain ⟨v, σ', H', J, rv, q⟩ := hs
      exact fin J rv q
    | next =>
      obtain ⟨σ', H', J, q⟩ := hs
      exact fin (v := V.non) (u := Value.none) J rfl q
    | brk =>
      obtain ⟨_, _, _, q⟩ := hs
      exact False.elim q
    | cont =>
      obtain ⟨_, _, _, q⟩ := hs
      exact False.elim q
  refine wpAny_call (codeAny_mono run fun r s' hq => ?_)
  cases r with
  | error e => exact (show False from hq).elim
  | ok fl =>
    cases fl with
    | ret u => exact I1.after hq
    | next => exact False.elim hq
    | brk => exact False.elim hq
    | cont => exact False.elim hq
end FL
set_option Elab.async false
set_option linter.all false
set_option maxRecDepth 100000
set_option maxHeartbeats 2000000
namespace FL
open PySem PySem.Spec PyProof.Rows L2 LamX
variable {K : PySem.W.Frag} {mg : Str → Option Value} {T : List (Addr × Str)} {H0 M0 M M' M1 M2 H H' H1 H2 : Hp} {Γ Γ' : Env} {σ σ' : L2.St} {E : XK} {X : Cx}
/-! ### a lambda without parameters, handed to a def that calls it in a try -/
/-- the context of its body; what leaves it has no context of its own -/
def lamN (X : Cx) (A : Around) (outer : List PySem.Env) (s : Shared) (H : Hp) (E : XK) (scope : Scope) (f c' : Addr) : Cx :=
  (lamCx X A outer s H E scope f c').wish fun e s' => wpAny (model X.prog X.w) (A.deeper (lamEnv X scope s.heap.objs.size f c')) (leaving (lamEnv X scope s.heap.objs.size f c') e) (fun _ s'' => L2N.CX X.prog X.w outer H s E e s'') (fun e' s'' => L2N.CX X.prog X.w outer H s E e' s'') s'
theorem takesL {A : Around} {outer : List PySem.Env} {s : Shared} {scope : Scope} {f c' : Addr} : L2N.Takes (lamN X A outer s H E scope f c') (fun cls d _ H => E cls d H) := L2N.takes_of rfl rfl rfl rfl
theorem passLam {A : Around} {outer : List PySem.Env} {s : Shared} {scope : Scope} {f c' : Addr} : Passes (L2N.CX (lamN X A outer s H E scope f c').prog (lamN X A outer s H E scope f c').w) (lamN X A outer s H E scope f c') E := L2N.passes_call takesL fun _ _ _ _ h => h
theorem takes0N {X : Cx} : L2N.Takes X (fun _ _ _ _ => False) := fun _ _ x => by
  obtain ⟨_, _, _, _, _, _, _, _, _, _, _, _, _, _, _, _, z⟩ := x
  exact z.elim
/-- a(): the def that got it calls it -/
theorem pe_actN {CXg : CXT} {Eg : XK} {Ng : List Str} {qg : Str} {sg : Scope} {g f c' : Addr} {cdg pm ctv : Value} {params : Arguments} {body : Expr} {scope : Scope} {k i : Nat} {a : Str} {pins pn : List (Addr × Obj)} {s : Shared} {xe : Value → Shared → Prop} {W : WX} {E : XK} {tb : TE} {p1 p2 : Pos}
    (I : L2.Inv X pins σ H s) (L : LamS X.env.scope scope) (hf : s.heap.get? f = some (PySem.W.kla_obj "<lambda>" (X.env.qual ++ "<lambda>") params body scope (cloFrom X.env.cells scope.names []) pm c' ctv)) (hfn : H f = none) (hfr : f ∉ frs X.stack)
    (hbind : bindArgs (PySem.W.kla_fn "<lambda>" (X.env.qual ++ "<lambda>") params body scope (cloFrom X.env.cells scope.names []) pm (.ref c') ctv) ⟨[], []⟩ = pure [])
    (tk : L2N.Takes ((cxOf CXg X.prog X.w X.K X.mg X.base Ng qg sg g cdg X.A X.stack s H Eg).nox.tr pn xe) W) (hr : Room (k + 1) (X.A.deeper (envOfC qg sg s.heap.objs.size g cdg)))
    (hbody : ∀ (A : Around) (outer : List PySem.Env) (s : Shared) (H : Hp), Room k (A.deeper (lamEnv X scope s.heap.objs.size f c')) → PE (lamN X A outer s H E scope f c') body tb)
    (hN : Ng[i]? = some a) (hv : Vis sg a) (hd : (a == ("__debug__" : Str)) = false) (hcd : (a == ("__classdict__" : Str)) = false) :
    PE ((cxOf CXg X.prog X.w X.K X.mg X.base Ng qg sg g cdg X.A X.stack s H Eg).nox.tr pn xe) (.Call (.Name a p1) [] [] p2)
      (fun σZ HZ Q => (∀ cls d H', E cls d H' → W cls d σZ H') ∧ σZ[i]? = some (some (.ref f)) ∧ HZ c' = some (CodeO c' (X.env.qual ++ "<lambda>")) ∧ tb σ HZ Q) := by
  refine ⟨fun pinsZ sZ σZ HZ Q IZ h => ?_⟩
  obtain ⟨hW, hs, hc, ht⟩ := h
  refine wpAny_Call_Name_kw (thn ((pe_var (pos := p1) (i := i) hN hv hd hcd).run pinsZ sZ σZ HZ (fun v H1 => v = .ref f ∧ H1 = HZ) IZ ⟨.ref f, hs, rfl, rfl⟩) fun u s1 ⟨v, H1, I1, r1, q1⟩ => ?_)
  obtain ⟨rfl, rfl⟩ := q1
  cases r1
  have un : Un (frs X.stack) [] H H1 s.heap s1.heap := I1.base
  have of1 := un.keep f _ hf hfn hfr (fun z => nomatch (show f ∈ ([] : List Addr) from z))
  refine PySem.W.callWith_F0 ⟨_, _, _, _, of1⟩ ?_
  obtain ⟨⟨oc, vs, t, hoc, hdc, hvc⟩, _, _⟩ := I1.hok c' _ hc
  have rc : codeAny (model X.prog X.w) (X.A.deeper (envOfC qg sg s.heap.objs.size g cdg)) (.call (.ref f) ⟨[], []⟩) (CR (L2N.CX X.prog X.w) (envOfC qg sg s.heap.objs.size g cdg :: X.stack) X.prog X.w H1 s1 Q E) s1 := by
    refine PySem.W.kla_callFunE hr.depth of1 rfl L.co L.gen rfl ⟨c', oc, vs, t, rfl, hoc, hdc, hvc⟩ ?_
    rw [hbind]
    refine wpAny_pure (wpAny_newFunctionEnv (fun y hy => (L.own y hy).2) (fun y hy => absurd hy (by simp)) (fun h₁ hns hsb => ⟨I1.nolimit.fresh _ hsb, ?_⟩) L.kind)
    show codeAny _ _ (.expr body (lamEnv X scope s1.heap.objs.size f c')) _ _
    have kp : ∀ b o, s1.heap.get? b = some o → h₁.get? b = some o := fun b o e => hsb.extBut b o (Nat.ne_of_lt (Heap.lt_size e)) (Heap.get?_push_of_some _ e)
    have J0 : L2.Inv (lamCx X (X.A.deeper (envOfC qg sg s.heap.objs.size g cdg)) (envOfC qg sg s.heap.objs.size g cdg :: X.stack) s1 H1 E scope f c') [] σ H1 { s1 with heap := h₁, toks := s1.toks + ([] : List (Str × Value)).length } :=
      lam_start2 I L I1.env0 hr.hd un hns kp
    have J : L2.Inv (lamN X (X.A.deeper (envOfC qg sg s.heap.objs.size g cdg)) (envOfC qg sg s.heap.objs.size g cdg :: X.stack) s1 H1 E scope f c') [] σ H1 { s1 with heap := h₁, toks := s1.toks + ([] : List (Str × Value)).length } := J0.wish _
    refine PySem.W.kla_codeExpr (wpAny_mono ((hbody _ _ s1 H1 (hr.deeper _)).run [] _ _ H1 Q J ht) (fun v s' hq => ?_) fun e s' hq => hq)
    obtain ⟨w', H', J', rv, q⟩ := hq
    exact ⟨w', H', J'.os, J'.bare, J'.base, J'.hok, rv, q⟩
  refine wpAny_call (codeAny_mono rc fun r s' hq => ?_)
  cases r with
  | error e => exact tk e s' (L2N.XE.of_call I1 hW hq)
  | ok fl =>
    cases fl with
    | ret u => exact I1.after hq
    | next => exact False.elim hq
    | brk => exact False.elim hq
    | cont => exact False.elim hq
def mTold (ns : List Str) (m : Env → Out D) : Env → Out D := fun Γ => match m Γ with
  | .ok d => .ok d
  | .exc c => if c ∈ ns then .ok (.str c) else .bad
  | .bad => .bad
/-- what the head must say of the two defs: told (g: try: return deed() .. except e as n: return word(n)) and word -/
structure Told (P : Program) (w : World) (K : PySem.W.Frag) (mg : Str → Option Value) (base : Heap) (T : List (Addr × Str)) (ns : List Str) (bad : Str) (x wd a n : Str) (kw : Nat) : Prop where
  ex : ∃ (g CS fw : Addr) (fd fdw : FuncData) (params paramsw : Arguments) (sg sw : Scope) (bw : List Stmt) (Nw : List Str) (pw : Str) (p1 p2 p3 p4 p5 p6 p7 p8 p9 p10 p11 : Pos) (mw : Str → Addr → Env → SO),
    FunD K x x params [.Try [.Return (some (.Call (.Name a p1) [] [] p2)) p3] [.ExceptHandler (some (.Name bad p4)) (some n) [.Return (some (.Call (.Name wd p5) [.Name n p6] [] p7)) p8] p9] [] [] p10] sg [] [] g fd ∧ mg x = some (.ref g) ∧
    FnScope [a, n] [a] sg ∧ sg.names.lookup n = some .local ∧ Vis sg a ∧ sg.names.lookup bad = some .globalImplicit ∧ sg.names.lookup wd = some .globalImplicit ∧
    (∀ (kV doc pm : Value) (an : Option Addr) (cdv ct : Value) (us : List Value), us.length = 1 → bindArgs (PySem.W.fnOf x x params [.Try [.Return (some (.Call (.Name a p1) [] [] p2)) p3] [.ExceptHandler (some (.Name bad p4)) (some n) [.Return (some (.Call (.Name wd p5) [.Name n p6] [] p7)) p8] p9] [] [] p10] sg .none kV doc pm an cdv ct) ⟨us, []⟩ = pure (([a] : List Str).zip us)) ∧
    FunD K wd wd paramsw bw sw [] [] fw fdw ∧ mg wd = some (.ref fw) ∧ FnScope Nw [pw] sw ∧
    (∀ (kV doc pm : Value) (an : Option Addr) (cdv ct : Value) (us : List Value), us.length = 1 → bindArgs (PySem.W.fnOf wd wd paramsw bw sw .none kV doc pm an cdv ct) ⟨us, []⟩ = pure (([pw] : List Str).zip us)) ∧
    mg bad = some (.ref CS) ∧ (∀ c ∈ ns, ∀ C, mg c = some (.ref C) → PySem.W.exmOne K (.ref C) (.ref CS) = some true) ∧
    (∀ c ∈ ns, ∀ C, mg c = some (.ref C) → ∀ (ad : Addr) (oe : Obj), Zc (.ref C) none oe → (∃ vs, oe.data = .fields vs) → ∀ (cdv : Value) (A : Around) (outer : List PySem.Env) (s : Shared) (H : Hp), L2H.RoomH kw (A.deeper (envOfC wd sw s.heap.objs.size fw cdv)) → L2H.Hot1 A (ad, oe) →
      PSsm (L2H.cxH CX0 P w K mg base Nw wd sw fw cdv A outer s H E0 (ad, oe)).nox T E0 bw (mw c ad)) ∧
    (∀ c ∈ ns, ∀ ad, defM 1 (Nw.length - 1) (mw c ad) [.opq ad] = .ok (.str c))
theorem Ext.none_keep (e : Ext T (fun _ => none) H1 M' H2) (ms : Same M H1) (nt : ∀ a ps, M a ≠ some (.tbl ps)) : Ext T M H1 M H2 :=
  ⟨e.kp, e.tb, Same.refl M, fun b o hb => e.kp b o (ms b o hb) (fun ps z => nt b ps (z ▸ hb)), nt, fun _ _ h => .inl h⟩
theorem e_told {ns : List Str} {bad x wd a n : Str} {kw k : Nat} {c P : Addr} {m : Env → Out D} {params : Arguments} {body : Expr} {scope : Scope} {p lpos pos : Pos} (TD : Told X.prog X.w X.K X.mg X.base T ns bad x wd a n kw) (TB : TabB X.base X.mg c P) (hmT : (P, X.env.qual ++ "<lambda>") ∈ T) (hu : ∀ p ∈ T, p.1 = P → p.2 = X.env.qual ++ "<lambda>") (hcode : X.env.code = .ref c)
    (hr : Room (k + 2) X.A) (hkw : kw ≤ k) (L : LamS X.env.scope scope) (hg : Gl X x) (hdef : defaultsOf params X.env = ([], []))
    (hbind : ∀ (q : Str) (cl : List (Str × Addr)) (pm cv ctv : Value), bindArgs (PySem.W.kla_fn "<lambda>" q params body scope cl pm cv ctv) ⟨[], []⟩ = pure [])
    (hbody : ∀ (A : Around) (outer : List PySem.Env) (s : Shared) (H : Hp) (E : XK) (f c' : Addr), Room k (A.deeper (lamEnv X scope s.heap.objs.size f c')) → PEm (lamN X A outer s H E scope f c') T E body m)
    (hdb : (x == ("__debug__" : Str)) = false := by decide) (hda : (a == ("__debug__" : Str)) = false := by decide) (hca : (a == ("__classdict__" : Str)) = false := by decide) (hdn : (n == ("__debug__" : Str)) = false := by decide) (hcn : (n == ("__classdict__" : Str)) = false := by decide)
    (hdbad : (bad == ("__debug__" : Str)) = false := by decide) (hdw : (wd == ("__debug__" : Str)) = false := by decide) :
    PEm X T E (.Call (.Name x p) [.Lambda params body scope lpos] [] pos) (mTold ns m) := by
  obtain ⟨g, CS, fw, fd, fdw, parg, paramsw, sg, sw, bw, Nw, pw, p1, p2, p3, p4, p5, p6, p7, p8, p9, p10, p11, mw, F, hm, Sg, hln, hva, hgb, hgw, hb, Fw, hmw, Sw, hbw, hbad, hexm, hword, hval⟩ := TD.ex
  refine ⟨fun pins s σ H Q I h => ?_⟩
  obtain ⟨Γ, M, H0, rs, fin⟩ := h
  refine wpAny_Call_Name_kw (ld_glob I hg hm ?_ hdb)
  refine PySem.W.callWith_K (h₀ := X.base) I.ok.mod.kin F.kp ?_ (by rfl) (by rfl)
  show wpAny _ _ (spliced ((false, eval (.Lambda params body scope lpos) X.env) :: backTo pos (starEach [] X.env))) _ _ s
  refine Calls.spliced_cons (lam_make2 I TB hcode hmT hu rs.tb hdef (L.has I.ok) fun f c' pm' ctv H1 s' I1 eN T1 hf hfn hfr hco => ?_)
  refine Calls.spliced_nil ⟨I1.kIn, ?_⟩
  -- the heap behind the making
  have e1 : Ext T M H M H1 := ⟨eN, fun _ => T1, Same.refl M, fun b o hb => eN b o (rs.ms b o hb) (fun ps z => rs.nt b ps (z ▸ hb)), rs.nt, fun _ _ h => .inl h⟩
  have rs1 := rs.ext e1
  obtain ⟨oc, od, dV, kV, doc, pm, an, cdv, ct, osl, rfl, lk, hcd, hD0, hK0⟩ := F.ex
  have bb := F.bindsN (ps := [a]) hb
  have rc : codeAny (model X.prog X.w) X.A (.call (.ref g) ⟨[.ref f], []⟩) (CR CX0 X.stack X.prog X.w H1 s' Q E0) s' := by
    have b1 := bb s' [.ref f] I1.kIn rfl
    refine run_ofS (N := [a, n]) (ps := [a]) (us := [.ref f]) (vs := [.ref f]) lk hcd Sg hr I1.env0 b1 (.cons rfl .nil) rfl fun hr' => ?_
    -- what is wished of an exception of the body
    let Ech : XK := fun cls d H' => ∃ c C, c ∈ ns ∧ cls = .ref C ∧ d = none ∧ X.mg c = some (.ref C) ∧ Tabs T H' ∧ ∀ H2 M2, Ext T (fun _ => none) H' M2 H2 → Q (.str c) H2
    let ts : Addr → Value → Option Addr → TS := fun ad cls d D σ H => ∃ c C, c ∈ ns ∧ cls = .ref C ∧ d = none ∧ X.mg c = some (.ref C) ∧ σ[1]? = some (some (.ref ad)) ∧ Tabs T H ∧ ∀ H2 M2, Ext T (fun _ => none) H M2 H2 → D.rt (.str c) H2
    refine ⟨_, PSs.nox (pss_one (L2N.ps_try_as (X := (cxOf CX0 X.prog X.w X.K X.mg X.base [a, n] x sg g cdv X.A X.stack s' H1 E0).nox) (c := .ref CS) (i := 1) (n := n) (ts := ts) (Wout := fun _ _ _ _ => False)
      (tb := fun W D σZ HZ => (∀ cls d H', Ech cls d H' → W cls d σZ H') ∧ σZ[0]? = some (some (.ref f)) ∧ HZ c' = some (CodeO c' (X.env.qual ++ "<lambda>")) ∧ tOf X.K X.mg T Ech m σ HZ D.rt)
      rfl rfl Sg.nd rfl hln ⟨hgb, hdbad, .inl hbad⟩ takes0N (fun W pn xe tk _ => ?_) (fun ad oe cls d pn hz hfl => ?_))), ?_⟩
    · refine ⟨fun pins2 s2 σ2 H2 D2 I2 h2 => ?_⟩
      obtain ⟨hW, k1, k2, k3⟩ := h2
      have act := pe_actN (p1 := p1) (p2 := p2) (i := 0) (a := a) (E := Ech) (tb := tOf X.K X.mg T Ech m) I1 L hf hfn hfr (hbind _ _ _ _ _) tk hr' (fun A outer s H hr2 => hbody A outer s H Ech f c' hr2) rfl hva hda hca
      exact (pss_one (ps_ret (pos := p3) act)).run pins2 s2 σ2 H2 D2 I2 ⟨hW, k1, k2, k3⟩
    · refine ⟨fun pins2 s2 σ2 H2 D2 I2 h2 => ?_⟩
      obtain ⟨c, C, hc, rfl, rfl, hmc, hσ, htb, hQ⟩ := h2
      obtain ⟨vs, hvs⟩ := hfl
      have hot : L2H.Hot1 (X.A.deeper (envOfC x sg s'.heap.objs.size g cdv) |>.mark (some (.ref ad))) (ad, oe) := ⟨rfl, vs, hvs, hz.2.2 vs hvs⟩
      have hrH : L2H.RoomH (kw + 1) ((X.A.deeper (envOfC x sg s'.heap.objs.size g cdv)).mark (some (.ref ad))) := ⟨by have := hr'.dp; show (X.A.deeper (envOfC x sg s'.heap.objs.size g cdv)).depth + 3 * (kw + 1) + 5 < recursionLimit; omega, by have := hr'.un; show (X.A.deeper (envOfC x sg s'.heap.objs.size g cdv)).units + 16 * (kw + 1) + 200 < cLine; omega⟩
      have pw1 := pe_hot (X := ((cxOf CX0 X.prog X.w X.K X.mg X.base [a, n] x sg g cdv X.A X.stack s' H1 E0).nox).suite ad ((ad, oe) :: pn)) (T := T) (q := p5) (pos := p7) (e := .Name n p6) (te := tVar 1) (a := ad) (oe := oe) (d := .str c) (k := kw) Fw Sw hgw hmw hbw hrH hot List.mem_cons_self (pe_var (i := 1) rfl (.inl hln) hdn hcn)
        (fun cdv2 A2 outer2 s2 H2 hr2 hot2 => hword c hc C hmc ad oe ⟨hz.1, hz.2.1⟩ ⟨vs, hvs⟩ cdv2 A2 outer2 s2 H2 hr2 hot2) (hval c hc ad) hdw rfl
      refine (pss_one (ps_ret (pos := p8) pw1)).run pins2 s2 σ2 H2 D2 I2 ⟨.ref ad, hσ, rfl, htb, fun v' H' M' e' r' => ?_⟩
      cases r'
      exact hQ H' M' e'
    · -- the reading of the try
      refine ⟨fun cls d H' hE => ?_, rfl, hco, Γ, M, H0, rs1, ?_⟩
      · obtain ⟨c, C, hc, rfl, rfl, hmc, htb, hQ⟩ := hE
        refine ⟨true, hexm c hc C hmc, fun _ ad _ => ⟨c, C, hc, rfl, rfl, hmc, rfl, htb, hQ⟩, fun z => Bool.noConfusion z⟩
      · have fin1 := Fin.up fin e1
        unfold mTold at fin1
        cases qm : m Γ with
        | ok d =>
          rw [qm] at fin1
          exact fin1
        | bad =>
          rw [qm] at fin1
          exact fin1
        | exc cc =>
          rw [qm] at fin1
          have fin1 : Fin X.K X.mg T M H1 Q E (if cc ∈ ns then Out.ok (.str cc) else .bad) := fin1
          by_cases hcc : cc ∈ ns
          · rw [if_pos hcc] at fin1
            intro C H2 M2 e2 hmC
            refine ⟨cc, C, hcc, rfl, rfl, hmC, e2.tb rs1.tb, fun H3 M3 e3 => ?_⟩
            exact fin1 _ _ _ (e2.trans (e3.none_keep e2.ms e2.nt)) (.str cc)
          · rw [if_neg hcc] at fin1
            exact fin1.elim
  refine wpAny_call (codeAny_mono rc fun r s2 hq => ?_)
  cases r with
  | error e => exact (show False from hq).elim
  | ok fl =>
    cases fl with
    | ret u => exact I1.after hq
    | next => exact False.elim hq
    | brk => exact False.elim hq
    | cont => exact False.elim hq
end FL
set_option Elab.async false
set_option linter.all false
set_option maxRecDepth 100000
set_option maxHeartbeats 2000000
namespace FL
open PySem PySem.Spec PyProof.Rows L2 LamX
variable {K : PySem.W.Frag} {mg : Str → Option Value} {T : List (Addr × Str)} {H0 M0 M M' M1 M2 H H' H1 H2 : Hp} {Γ Γ' : Env} {σ σ' : L2.St} {E : XK} {X : Cx}
/-- the table of the def x's lambdas -/
def LamI (K : PySem.W.Frag) (mg : Str → Option Value) (base : Heap) (T : List (Addr × Str)) (x : Str) : Prop :=
  ∃ P, TabB base mg (He.codeOf K (x, none)) P ∧ (P, (x ++ ".<locals>.") ++ "<lambda>") ∈ T ∧ ∀ p ∈ T, p.1 = P → p.2 = (x ++ ".<locals>.") ++ "<lambda>"
/-- a def that makes lambdas -/
theorem def_okL {P : Program} {w : World} {base : Heap} {x : Str} {params : Arguments} {body : List Stmt} {scope : Scope} {fd : FuncData} {N ps : List Str} {k : Nat} {m : Env → SO} (n : Nat) (F : FunD K x x params body scope [] [] (He.ga K x) fd) (S : FnScope N ps scope) (hn : ps.length = n) (hg : mg x = some (.ref (He.ga K x)))
    (hb : ∀ (kV doc pm : Value) (an : Option Addr) (cdv ct : Value) (us : List Value), us.length = ps.length → bindArgs (PySem.W.fnOf x x params body scope .none kV doc pm an cdv ct) ⟨us, []⟩ = pure (ps.zip us))
    (hbody : ∀ (cdv : Value) (A : Around) (outer : List PySem.Env) (s : Shared) (H : Hp) (E : XK), cdv = .ref (He.codeOf K (x, none)) → Room k (A.deeper (envOfC x scope s.heap.objs.size (He.ga K x) cdv)) →
      PSsm (cxOf (L2N.CX P w) P w K mg base N x scope (He.ga K x) cdv A outer s H E) T E body m) : FnI P w K mg base T (k + 1) x n (defM n (N.length - n) m) := by
  have kp := F.kp
  have bn := F.bindsN hb
  obtain ⟨oc, od, dV, kV, doc, pm, an, cdv, ct, osl, rfl, lk, hcd, _, _⟩ := F.ex
  obtain ⟨c, hc⟩ := He.codeIn_ref hcd
  have e : cdv = .ref (He.codeOf K (x, none)) := by
    rw [hc]
    exact congrArg Value.ref (He.codeOf_eq (p := (x, none)) lk hc).symm
  exact ⟨He.ga K x, _, ps, hg, kp, bn, fn_of lk hcd S (fun vs H Q E h => h.1.trans hn.symm) fun A outer s H vs Q E hr h => ⟨_, hbody cdv A outer s H E e hr, body_of h⟩⟩
/-- the law itself -/
theorem def_okF {P : Program} {w : World} {base : Heap} {x : Str} {params : Arguments} {body : List Stmt} {scope : Scope} {fd : FuncData} {N ps : List Str} {k : Nat} {m : Env → SO} (n : Nat) (F : FunD K x x params body scope [] [] (He.ga K x) fd) (S : FnScope N ps scope) (hn : ps.length = n)
    (hbody : ∀ (cdv : Value) (A : Around) (outer : List PySem.Env) (s : Shared) (H : Hp) (E : XK), cdv = .ref (He.codeOf K (x, none)) → Room k (A.deeper (envOfC x scope s.heap.objs.size (He.ga K x) cdv)) →
      PSsm (cxOf (L2N.CX P w) P w K mg base N x scope (He.ga K x) cdv A outer s H E) T E body m) : FnOk P w K mg base (L2N.CX P w) (k + 1) (He.ga K x) fd ps (spOf K mg T n (defM n (N.length - n) m)) := by
  obtain ⟨oc, od, dV, kV, doc, pm, an, cdv, ct, osl, rfl, lk, hcd, _, _⟩ := F.ex
  obtain ⟨c, hc⟩ := He.codeIn_ref hcd
  have e : cdv = .ref (He.codeOf K (x, none)) := by
    rw [hc]
    exact congrArg Value.ref (He.codeOf_eq (p := (x, none)) lk hc).symm
  exact fn_of lk hcd S (fun vs H Q E h => h.1.trans hn.symm) fun A outer s H vs Q E hr h => ⟨_, hbody cdv A outer s H E e hr, body_of h⟩
theorem e_td {ns : List Str} {bad x wd a n y : Str} {kw k : Nat} {m : Env → Out D} {params : Arguments} {body : Expr} {scope : Scope} {p lpos pos : Pos} (TD : Told X.prog X.w X.K X.mg X.base T ns bad x wd a n kw) (LI : LamI X.K X.mg X.base T y) (hcode : X.env.code = .ref (He.codeOf X.K (y, none))) (hq : X.env.qual = y ++ ".<locals>.")
    (hr : Room (k + 2) X.A) (hkw : kw ≤ k) (L : LamS X.env.scope scope) (hg : Gl X x) (hdef : defaultsOf params X.env = ([], []))
    (hbind : ∀ (q : Str) (cl : List (Str × Addr)) (pm cv ctv : Value), bindArgs (PySem.W.kla_fn "<lambda>" q params body scope cl pm cv ctv) ⟨[], []⟩ = pure [])
    (hbody : ∀ (A : Around) (outer : List PySem.Env) (s : Shared) (H : Hp) (E : XK) (f c' : Addr), Room k (A.deeper (lamEnv X scope s.heap.objs.size f c')) → PEm (lamN X A outer s H E scope f c') T E body m)
    (hdb : (x == ("__debug__" : Str)) = false := by decide) (hda : (a == ("__debug__" : Str)) = false := by decide) (hca : (a == ("__classdict__" : Str)) = false := by decide) (hdn : (n == ("__debug__" : Str)) = false := by decide) (hcn : (n == ("__classdict__" : Str)) = false := by decide)
    (hdbad : (bad == ("__debug__" : Str)) = false := by decide) (hdw : (wd == ("__debug__" : Str)) = false := by decide) :
    PEm X T E (.Call (.Name x p) [.Lambda params body scope lpos] [] pos) (mTold ns m) := by
  obtain ⟨P, h1, h2, h3⟩ := LI
  rw [← hq] at h2 h3
  exact e_told TD h1 h2 h3 hcode hr hkw L hg hdef hbind hbody hdb hda hca hdn hcn hdbad hdw
theorem c_neH {k : Nat} (hr : L2H.RoomH k X.A) : Cm X T .NotEq dNe := ⟨op_neD (by have := hr.un; omega), od_ne, nx_ne⟩
theorem hotC {CX : CXT} {P : Program} {w : World} {base : Heap} {N : List Str} {q : Str} {sc : Scope} {f : Addr} {cd : Value} {A : Around} {outer : List PySem.Env} {s : Shared} {p : Addr × Obj} (h : L2H.Hot1 A p) : L2H.HotC (L2H.cxH CX P w K mg base N q sc f cd A outer s H E p).nox := ⟨p, h, List.mem_cons_self⟩

/-! ### what the head's run tells besides -/
def excB (K : PySem.W.Frag) (c : Str) : Bool :=
  decide (PySem.W.findIn K (.ref (He.ga K c)) "__getattribute__" = some (some (.builtin "BaseException.__getattribute__"))) && (decide (PySem.W.findIn K (.ref (He.ga K c)) "__getattr__" = some none) &&
  (decide (PySem.W.subIn K (.ref (He.ga K c)) (.type "BaseException") = some true) && (PySem.W.hasDictIn K (He.ga K c) && (decide (PySem.W.findIn K (.ref (He.ga K c)) "__class__" = some (some (.builtin "object.__class__"))) &&
  (decide (PySem.W.specialIn K (.builtin "object.__class__") "__get__" = some (some (.builtin "getset_descriptor.__get__"))) && (decide (PySem.W.takesIn K (.builtin "object.__class__") = some true) && decide (PySem.W.mroIn K (He.ga K c) (.type "object") = some true)))))))
theorem excB_ok {c : Str} (h : excB K c = true) : ExcC K (He.ga K c) := by
  unfold excB at h
  simp only [Bool.and_eq_true, decide_eq_true_eq] at h
  obtain ⟨h1, h2, h3, h4, h5, h6, h7, h8⟩ := h
  exact ⟨h1, h2, h3, h4, h5, h6, h7, h8⟩
def wordB (K : PySem.W.Frag) (ns : List Str) : Bool := ns.all fun c => excB K c && (decide (PySem.W.kitOne K (.ref (He.ga K c)) (.type "ValueError") = some true) && ns.all fun y => decide (PySem.W.kitOne K (.ref (He.ga K c)) (.ref (He.ga K y)) = some (decide (y = c))))
theorem wordB_ok {ns : List Str} (h : wordB K ns = true) (hg : ∀ c ∈ ns, mg c = some (.ref (He.ga K c))) : ∀ c ∈ ns, ∀ C, mg c = some (.ref C) → WordK K mg ns c C := fun c hc C hC => by
  have e := hg c hc
  rw [hC] at e
  cases e
  have h1 := List.all_eq_true.mp h c hc
  rw [Bool.and_eq_true, Bool.and_eq_true] at h1
  refine ⟨excB_ok h1.1, of_decide_eq_true h1.2.1, fun y hy Cy hCy => ?_⟩
  have e := hg y hy
  rw [hCy] at e
  cases e
  exact of_decide_eq_true (List.all_eq_true.mp h1.2.2 y hy)
def gtupB (K : PySem.W.Frag) (x : Str) (ns : List Int) : Bool := match K.lookup (He.ga K x) with
  | some ⟨.type "tuple", _, .seq its _, _⟩ => decide (its.size ≤ sizeLine) && He.relAll (ns.map V.int) its.toList
  | _ => false
theorem gtupB_ok {x : Str} {ns : List Int} (h : gtupB K x ns = true) (hg : mg x = some (.ref (He.ga K x))) : GTup K mg x ns := by
  refine ⟨He.ga K x, hg, fun M => .inr ?_⟩
  unfold gtupB at h
  split at h
  · rename_i dd its n sl hl
    rw [Bool.and_eq_true] at h
    exact ⟨_, its, n, hl, rfl, rfl, of_decide_eq_true h.1, He.relAll_ok h.2⟩
  · cases h
theorem exc_I {x : Str} (hg : mg x = some (.ref (He.ga K x))) (c : (He.Fa.exc x).ok K = true) : ExI K mg x := by
  obtain ⟨h1, h2, h3, h4⟩ := He.exc_ok c
  exact ⟨_, hg, h1, h2, h3, h4⟩
/-- the law's promise from its meaning -/
theorem law_sp {k : Nat} {m : List D → Out D} {H : Hp} {a : Addr} {ns : List Int} (hT : Tabs T H) (hs : SqL K H a (ns.map V.int)) (h : m [.scr ns] = .ok (.bl true)) : spOf K mg T 1 m [.ref a] H (fun v _ => v = .bl true) fun _ _ _ => False := by
  refine ⟨rfl, hT, fun b => match H b with | some (.tbl _) => none | o => o, [.scr ns], fun b o e => ?_, fun b ps e => ?_, .cons (.scr ?_) .nil, ?_⟩
  · dsimp only at e
    split at e
    · cases e
    · exact e
  · dsimp only at e
    split at e
    · cases e
    · rename_i h2
      exact h2 ps e
  · rcases hs with (hs | ⟨o, hs⟩) | hs
    · refine .inl (.inl ?_)
      show (match H a with | some (.tbl _) => none | o => o) = _
      rw [hs]
    · refine .inl (.inr ⟨o, ?_⟩)
      show (match H a with | some (.tbl _) => none | o => o) = _
      rw [hs]
    · exact .inr hs
  · rw [h]
    intro v H' M' _ r
    cases r
    rfl
theorem cx_false {P : Program} {w : World} {H : Hp} {s : Shared} {e : Value} {s' : Shared} (h : L2N.CX P w [] H s (fun _ _ _ => False) e s') : False := by
  obtain ⟨_, _, _, _, _, _, _, _, _, _, _, _, z⟩ := h
  exact z
end FL
set_option Elab.async false
set_option linter.all false
set_option maxRecDepth 100000
set_option maxHeartbeats 4000000
/-! tools for the plain laws about the meanings -/
namespace FL
open PySem PySem.Spec PyProof.Rows L2 LamX
theorem sSeq_nx {a b : Env → SO} {Γ Γ' : Env} (h : a Γ = .nx Γ') : sSeq a b Γ = b Γ' := by
  unfold sSeq
  rw [h]
theorem sSeq_rt {a b : Env → SO} {Γ : Env} {d : D} (h : a Γ = .rt d) : sSeq a b Γ = .rt d := by
  unfold sSeq
  rw [h]
theorem sSeq_exc {a b : Env → SO} {Γ : Env} {d : Str} (h : a Γ = .exc d) : sSeq a b Γ = .exc d := by
  unfold sSeq
  rw [h]
theorem sSet_ok {i : Nat} {m : Env → Out D} {Γ : Env} {d : D} (h : m Γ = .ok d) : sSet i m Γ = .nx (Γ.set i (some (.dat d))) := by
  unfold sSet
  rw [h]
  rfl
theorem sRet_ok {m : Env → Out D} {Γ : Env} {d : D} (h : m Γ = .ok d) : sRet m Γ = .rt d := by
  unfold sRet
  rw [h]
  rfl
theorem sIf_ok {c : Env → Out Bool} {a b : Env → SO} {Γ : Env} {x : Bool} (h : c Γ = .ok x) : sIf c a b Γ = if x = true then a Γ else b Γ := by
  unfold sIf
  rw [h]
  rfl
theorem sIf_no {c : Env → Out Bool} {a : Env → SO} {Γ : Env} (h : c Γ = .ok false) : sIf c a sNext Γ = .nx Γ := by
  unfold sIf
  rw [h]
  rfl
theorem sFor_ok {p : Pt} {it : Env → Out (List D)} {b : Env → SO} {Γ : Env} {ds : List D} (h : it Γ = .ok ds) : sFor p it b Γ = forL p b ds Γ := by
  unfold sFor
  rw [h]
  rfl
theorem m2_ok {f : D → D → Out D} {a b : Env → Out D} {Γ : Env} {x y d : D} (ha : a Γ = .ok x) (hb : b Γ = .ok y) (h : f x y = .ok d) : m2 f a b Γ = .ok d := by
  unfold m2
  rw [ha, Out.bind, hb, Out.bind, h]
theorem m1_ok {f : D → Out D} {a : Env → Out D} {Γ : Env} {x d : D} (ha : a Γ = .ok x) (h : f x = .ok d) : m1 f a Γ = .ok d := by
  unfold m1
  rw [ha, Out.bind, h]
theorem mN_ok {f : List D → Out D} {a : Env → Out (List D)} {Γ : Env} {x : List D} {d : D} (ha : a Γ = .ok x) (h : f x = .ok d) : mN f a Γ = .ok d := by
  unfold mN
  rw [ha, Out.bind, h]
theorem mI_ok {f : List D → Out (List D)} {a : Env → Out (List D)} {Γ : Env} {x : List D} {d : List D} (ha : a Γ = .ok x) (h : f x = .ok d) : mI f a Γ = .ok d := by
  unfold mI
  rw [ha, Out.bind, h]
theorem mCons_ok {a : Env → Out D} {b : Env → Out (List D)} {Γ : Env} {x : D} {y : List D} (ha : a Γ = .ok x) (hb : b Γ = .ok y) : mCons a b Γ = .ok (x :: y) := by
  unfold mCons
  rw [ha, Out.bind, hb, Out.bind]
theorem arg_ok {n : Nat} {f : List D → Out D} {ds : List D} {o : Out D} (hn : ds.length = n) (h : f ds = o) : arg n f ds = o := by
  unfold arg
  rw [if_pos hn, h]
theorem a1_ok {a : Env → Out D} {Γ : Env} {x : D} (ha : a Γ = .ok x) : mCons a mNil Γ = .ok [x] := mCons_ok ha rfl
theorem a2_ok {a b : Env → Out D} {Γ : Env} {x y : D} (ha : a Γ = .ok x) (hb : b Γ = .ok y) : mCons a (mCons b mNil) Γ = .ok [x, y] := mCons_ok ha (a1_ok hb)
theorem a4_ok {a b c d : Env → Out D} {Γ : Env} {x y z w : D} (ha : a Γ = .ok x) (hb : b Γ = .ok y) (hc : c Γ = .ok z) (hd : d Γ = .ok w) : mCons a (mCons b (mCons c (mCons d mNil))) Γ = .ok [x, y, z, w] := mCons_ok ha (mCons_ok hb (a2_ok hc hd))
/-- a call of a def of one, of two, of four -/
theorem f1_ok {f : List D → Out D} {a : Env → Out D} {Γ : Env} {x : D} {o : Out D} (ha : a Γ = .ok x) (h : f [x] = o) : mN (arg 1 f) (mCons a mNil) Γ = o := by
  unfold mN
  rw [a1_ok ha]
  exact h
theorem f2_ok {f : List D → Out D} {a b : Env → Out D} {Γ : Env} {x y : D} {o : Out D} (ha : a Γ = .ok x) (hb : b Γ = .ok y) (h : f [x, y] = o) : mN (arg 2 f) (mCons a (mCons b mNil)) Γ = o := by
  unfold mN
  rw [a2_ok ha hb]
  exact h
theorem f4_ok {f : List D → Out D} {a b c d : Env → Out D} {Γ : Env} {x y z w : D} {o : Out D} (ha : a Γ = .ok x) (hb : b Γ = .ok y) (hc : c Γ = .ok z) (hd : d Γ = .ok w) (h : f [x, y, z, w] = o) : mN (arg 4 f) (mCons a (mCons b (mCons c (mCons d mNil)))) Γ = o := by
  unfold mN
  rw [a4_ok ha hb hc hd]
  exact h
/-- a call of a built-in of one, of two -/
theorem b1_ok {f : D → Out D} {a : Env → Out D} {Γ : Env} {x : D} {o : Out D} (ha : a Γ = .ok x) (h : f x = o) : mN (c1 f) (mCons a mNil) Γ = o := by
  unfold mN
  rw [a1_ok ha]
  exact h
theorem b2_ok {f : D → D → Out D} {a b : Env → Out D} {Γ : Env} {x y : D} {o : Out D} (ha : a Γ = .ok x) (hb : b Γ = .ok y) (h : f x y = o) : mN (c2 f) (mCons a (mCons b mNil)) Γ = o := by
  unfold mN
  rw [a2_ok ha hb]
  exact h
theorem sApp_ok {i : Nat} {m : Env → Out D} {Γ : Env} {ds : List D} {d : D} (ho : ownAt Γ i = some ds) (h : m Γ = .ok d) (hl : ds.length < LIM) : sApp i m Γ = .nx (Γ.set i (some (.own (ds ++ [d])))) := by
  unfold sApp
  rw [ho, h]
  exact if_pos hl
theorem sOwn_ok {i : Nat} {ms : Env → Out (List D)} {Γ : Env} {ds : List D} (h : ms Γ = .ok ds) (hl : ds.length ≤ LIM) : sOwn i ms Γ = .nx (Γ.set i (some (.own ds))) := by
  unfold sOwn
  rw [h]
  exact if_pos hl
theorem sExtd_ok {i : Nat} {m : Env → Out D} {Γ : Env} {ds es : List D} (ho : ownAt Γ i = some ds) (h : m Γ = .ok (.lst es)) (hl : ds.length + es.length ≤ LIM) : sExtd i m Γ = .nx (Γ.set i (some (.own (ds ++ es)))) := by
  unfold sExtd
  rw [ho, h]
  exact if_pos hl
theorem defM_rt {n k : Nat} {m : Env → SO} {ds : List D} {d : D} (h : m (ds.map (fun d => some (.dat d)) ++ List.replicate k none) = .rt d) : defM n k m ds = .ok d := by
  unfold defM
  rw [h]
theorem defM_exc {n k : Nat} {m : Env → SO} {ds : List D} {d : Str} (h : m (ds.map (fun d => some (.dat d)) ++ List.replicate k none) = .exc d) : defM n k m ds = .exc d := by
  unfold defM
  rw [h]
theorem sSeq_ex {a b : Env → SO} {Γ : Env} {o : SO} (h : ∃ Γ', a Γ = .nx Γ') (hb : ∀ Γ', b Γ' = o) : sSeq a b Γ = o := by
  obtain ⟨Γ', h⟩ := h
  rw [sSeq_nx h, hb]
/-- a block that goes on to its end, with what is then true of the names -/
def Goes (m : Env → SO) (Γ : Env) (P : Env → Prop) : Prop := ∃ Γ', m Γ = .nx Γ' ∧ P Γ'
theorem Goes.seq {a b : Env → SO} {Γ Γ' : Env} {P : Env → Prop} (h : a Γ = .nx Γ') (k : Goes b Γ' P) : Goes (sSeq a b) Γ P := by
  obtain ⟨Γ2, h2, p⟩ := k
  exact ⟨Γ2, (sSeq_nx h).trans h2, p⟩
theorem Goes.seq' {a b : Env → SO} {Γ : Env} {P Q : Env → Prop} (h : Goes a Γ Q) (k : ∀ Γ', Q Γ' → Goes b Γ' P) : Goes (sSeq a b) Γ P := by
  obtain ⟨Γ', h1, q⟩ := h
  exact .seq h1 (k Γ' q)
theorem Goes.end {m : Env → SO} {Γ Γ' : Env} {P : Env → Prop} (h : m Γ = .nx Γ') (p : P Γ') : Goes m Γ P := ⟨Γ', h, p⟩
theorem Goes.ex {m : Env → SO} {Γ : Env} {P : Env → Prop} (h : Goes m Γ P) : ∃ Γ', m Γ = .nx Γ' := h.imp fun _ q => q.1
theorem Goes.frz {i : Nat} {m : Env → SO} {Γ : Env} {P : Env → Prop} (k : Goes m (frzE Γ i) P) : Goes (sFrz i m) Γ P := k
theorem mTold_ok {ns : List Str} {m : Env → Out D} {Γ : Env} {d : D} (h : m Γ = .ok d) : mTold ns m Γ = .ok d := by
  unfold mTold
  rw [h]
theorem mTold_exc {ns : List Str} {m : Env → Out D} {Γ : Env} {c : Str} (h : m Γ = .exc c) (hc : c ∈ ns) : mTold ns m Γ = .ok (.str c) := by
  unfold mTold
  rw [h]
  exact if_pos hc
theorem mT_ok {a : Env → Out D} {Γ : Env} {b : Bool} (h : a Γ = .ok (.bl b)) : mT a Γ = .ok b := by
  unfold mT
  rw [h]
  rfl
/-- a for whose turns all go on -/
theorem forL_inv {p : Pt} {b : Env → SO} (I : Nat → Env → Prop) : ∀ {ds : List D} {n : Nat} {Γ : Env}, I n Γ → (∀ i d Γ, ds[i]? = some d → I (n + i) Γ → ∃ Γ1 Γ2, bindP p d Γ = some Γ1 ∧ b Γ1 = .nx Γ2 ∧ I (n + i + 1) Γ2) →
    ∃ Γ', forL p b ds Γ = .nx Γ' ∧ I (n + ds.length) Γ'
  | [], n, Γ, h, _ => ⟨Γ, rfl, h⟩
  | d :: ds, n, Γ, h, st => by
    obtain ⟨Γ1, Γ2, h1, h2, h3⟩ := st 0 d Γ rfl h
    obtain ⟨Γ', h4, h5⟩ := forL_inv I (ds := ds) (n := n + 1) (Γ := Γ2) h3 (fun i d' Γ hi hI => by
      have := st (i + 1) d' Γ (by simpa using hi) (by rw [show n + (i + 1) = n + 1 + i by omega]; exact hI)
      rw [show n + (i + 1) + 1 = n + 1 + i + 1 by omega] at this
      exact this)
    refine ⟨Γ', ?_, ?_⟩
    · simp only [forL, h1, h2, h4]
    · rw [List.length_cons, show n + (ds.length + 1) = n + 1 + ds.length by omega]
      exact h5
theorem Goes.for {p : Pt} {it : Env → Out (List D)} {b : Env → SO} {Γ : Env} (I : Nat → Env → Prop) {ds : List D} (hi : it Γ = .ok ds) (h0 : I 0 Γ) (st : ∀ i d Γ, ds[i]? = some d → I i Γ → ∃ Γ1, bindP p d Γ = some Γ1 ∧ Goes b Γ1 (I (i + 1))) : Goes (sFor p it b) Γ (I ds.length) := by
  obtain ⟨Γ', h1, h2⟩ := forL_inv (p := p) (b := b) I (ds := ds) (n := 0) (Γ := Γ) h0 (fun i d Γ hd hI => by
    rw [Nat.zero_add] at hI
    obtain ⟨Γ1, q1, Γ2, q2, q3⟩ := st i d Γ hd hI
    exact ⟨Γ1, Γ2, q1, q2, by rw [Nat.zero_add]; exact q3⟩)
  rw [Nat.zero_add] at h2
  exact ⟨Γ', (sFor_ok hi).trans h1, h2⟩
/-- .. over a range -/
theorem Goes.range {j : Nat} {it : Env → Out (List D)} {b : Env → SO} {Γ : Env} (I : Nat → Env → Prop) {n : Nat} (hi : it Γ = .ok ((List.range n).map fun i => D.int ((i : Nat) : Int))) (h0 : I 0 Γ) (st : ∀ i Γ, i < n → I i Γ → Goes b (Γ.set j (some (.dat (.int ((i : Nat) : Int))))) (I (i + 1))) : Goes (sFor (.nm j) it b) Γ (I n) := by
  have := Goes.for (p := .nm j) (b := b) I hi h0 (fun i d Γ hd hI => by
    have hl : i < n := by
      have := (List.getElem?_eq_some_iff.mp hd).1
      simpa using this
    obtain rfl : D.int ((i : Nat) : Int) = d := by simpa [hl] using hd
    exact ⟨_, rfl, st i Γ hl hI⟩)
  rw [List.length_map, List.length_range] at this
  exact this
theorem compL_map {α : Type} {p : Pt} {c : Env → Out Bool} {elt : Env → Out D} {Γ : Env} (f : α → D) (q : α → Bool) (g : α → D) : ∀ {xs : List α}, (∀ a ∈ xs, ∃ Γ1, bindP p (f a) Γ = some Γ1 ∧ c Γ1 = .ok (q a) ∧ (q a = true → elt Γ1 = .ok (g a))) →
    compL p c elt Γ (xs.map f) = .ok ((xs.filter q).map g)
  | [], _ => rfl
  | a :: xs, h => by
    obtain ⟨Γ1, h1, h2, h3⟩ := h a List.mem_cons_self
    have ih := compL_map f q g (xs := xs) fun a ha => h a (List.mem_cons_of_mem _ ha)
    simp only [List.map_cons, compL, h1, h2]
    cases hq : q a with
    | true =>
      simp only [h3 hq, ih, List.filter_cons, hq, if_true, List.map_cons]
    | false =>
      simp only [ih, List.filter_cons, hq, Bool.false_eq_true, if_false]
theorem mComp_ok {α : Type} {vs : List Nat} {p : Pt} {it : Env → Out (List D)} {c : Env → Out Bool} {elt : Env → Out D} {Γ : Env} {xs : List α} (f : α → D) (q : α → Bool) (g : α → D) (hi : it Γ = .ok (xs.map f))
    (h : ∀ a ∈ xs, ∃ Γ1, bindP p (f a) (wipeE Γ vs) = some Γ1 ∧ c Γ1 = .ok (q a) ∧ (q a = true → elt Γ1 = .ok (g a))) (hl : xs.length ≤ LIM) : mComp vs p it c elt Γ = .ok (.lst ((xs.filter q).map g)) := by
  unfold mComp
  rw [hi, Out.bind, compL_map f q g h]
  show dLst _ = _
  unfold dLst
  rw [if_pos]
  rw [List.length_map]
  exact Nat.le_trans (List.length_filter_le _ _) hl
theorem filter_yes {α : Type} (xs : List α) : xs.filter (fun _ => true) = xs := List.filter_eq_self.mpr fun _ _ => rfl
/-- .. without a test -/
theorem mComp_all {α : Type} {vs : List Nat} {p : Pt} {it : Env → Out (List D)} {elt : Env → Out D} {Γ : Env} {xs : List α} (f : α → D) (g : α → D) (hi : it Γ = .ok (xs.map f))
    (h : ∀ a ∈ xs, ∃ Γ1, bindP p (f a) (wipeE Γ vs) = some Γ1 ∧ elt Γ1 = .ok (g a)) (hl : xs.length ≤ LIM) : mComp vs p it tYesM elt Γ = .ok (.lst (xs.map g)) := by
  have := mComp_ok (c := tYesM) (elt := elt) f (fun _ => true) g hi (fun a ha => by
    obtain ⟨Γ1, h1, h2⟩ := h a ha
    exact ⟨Γ1, h1, rfl, fun _ => h2⟩) hl
  rw [filter_yes] at this
  exact this
theorem intsD_zero (n : Nat) : intsD 0 n = (List.range n).map fun i => D.int ((i : Nat) : Int) := by
  unfold intsD
  congr 1
  funext i
  rw [Int.zero_add]
theorem rng1_nat {n : Nat} (h : n < 4611686018427387904) : rng1 [.int (n : Nat)] = .ok ((List.range n).map fun i => D.int ((i : Nat) : Int)) := by
  show (if -RLIM ≤ ((n : Nat) : Int) ∧ ((n : Nat) : Int) < RLIM then Out.ok (intsD 0 ((n : Nat) : Int).toNat) else .bad) = _
  unfold RLIM
  rw [if_pos (by omega), intsD_zero, Int.toNat_natCast]
theorem ixN_nat {n j : Nat} (h : j < n) : ixN n (j : Int) = some j := by
  unfold ixN
  rw [if_pos (by omega), if_pos (by omega), Int.toNat_natCast]
theorem dIx_ints {row : List Int} {j : Nat} (h : j < row.length) : dIx (.lst (row.map D.int)) (.int (j : Nat)) = .ok (.int (row.getD j 0)) := by
  show (match atI (row.map D.int) ((j : Nat) : Int) with | some d => Out.ok d | none => .bad) = _
  unfold atI
  rw [List.length_map, ixN_nat h]
  simp [h, List.getD]
theorem dIx_scr {row : List Int} {j : Nat} (h : j < row.length) : dIx (.scr row) (.int (j : Nat)) = .ok (.int (row.getD j 0)) := by
  show (match atI row ((j : Nat) : Int) with | some d => Out.ok (D.int d) | none => .bad) = _
  unfold atI
  rw [ixN_nat h]
  simp [h, List.getD]
theorem dIx_tup0 {a : D} {xs : List D} : dIx (.tup (a :: xs)) (.int 0) = .ok a := by
  show (match atI (a :: xs) (((0 : Nat) : Nat) : Int) with | some d => Out.ok d | none => .bad) = _
  unfold atI
  rw [ixN_nat (by simp)]
  rfl
theorem dIx_tup1 {a b : D} {xs : List D} : dIx (.tup (a :: b :: xs)) (.int 1) = .ok b := by
  show (match atI (a :: b :: xs) (((1 : Nat) : Nat) : Int) with | some d => Out.ok d | none => .bad) = _
  unfold atI
  rw [ixN_nat (by simp)]
  rfl
/-- an item of a display, at a place that is told -/
theorem dIx_lst {xs : List D} {i : Int} {j : Nat} {d : D} (hi : i = (j : Nat)) (h : xs[j]? = some d) : dIx (.lst xs) (.int i) = .ok d := by
  subst hi
  show (match atI xs ((j : Nat) : Int) with | some d => Out.ok d | none => .bad) = _
  rw [atI_nat h]
theorem dIx_mem {xs : List D} {r : Int} (h0 : 0 ≤ r) (h : r < xs.length) : ∃ d, d ∈ xs ∧ dIx (.lst xs) (.int r) = .ok d := by
  have hr : r.toNat < xs.length := by omega
  refine ⟨xs[r.toNat], List.getElem_mem _, ?_⟩
  exact dIx_lst (j := r.toNat) (by omega) (List.getElem?_eq_getElem hr)
theorem enum_ints (row : List Int) : enumI [.lst (row.map D.int)] = .ok ((List.range row.length).map fun i => D.tup [.int ((i : Nat) : Int), .int (row.getD i 0)]) := by
  show Out.ok _ = Out.ok _
  congr 1
  apply List.ext_getElem?
  intro i
  simp only [List.getElem?_mapIdx, List.getElem?_map]
  by_cases h : i < row.length
  · simp [h, List.getD]
  · simp [h]
theorem py_ints : ∀ row : List Int, D.pyL (row.map D.int) = row.map PyData.int
  | [] => rfl
  | x :: xs => by simp [D.pyL, D.py, py_ints xs]
theorem eqvAll_refl_ints : ∀ row : List Int, PyData.eqvAll (row.map PyData.int) (row.map PyData.int) = true
  | [] => by simp [PyData.eqvAll]
  | x :: xs => by simp [PyData.eqvAll, PyData.eqv, eqvAll_refl_ints xs]
theorem eqvAll_ints : ∀ {row row' : List Int}, PyData.eqvAll (row.map PyData.int) (row'.map PyData.int) = decide (row = row')
  | [], [] => by simp [PyData.eqvAll]
  | [], y :: ys => by simp [PyData.eqvAll]
  | x :: xs, [] => by simp [PyData.eqvAll]
  | x :: xs, y :: ys => by
    simp only [List.map_cons, PyData.eqvAll, PyData.eqv, eqvAll_ints (row := xs) (row' := ys), List.cons.injEq, Bool.decide_and]
    rw [← Bool.beq_eq_decide_eq] <;> rfl
theorem eqv_lst_ints (a b : List Int) : eqv (.lst (a.map D.int)) (.lst (b.map D.int)) = decide (a = b) := by
  unfold eqv
  simp only [D.py, py_ints, PyData.eqv, eqvAll_ints]
theorem eqv_tup_ints (a b : List Int) : eqv (.tup (a.map D.int)) (.tup (b.map D.int)) = decide (a = b) := by
  unfold eqv
  simp only [D.py, py_ints, PyData.eqv, eqvAll_ints]
theorem eqv_int (a b : Int) : eqv (.int a) (.int b) = decide (a = b) := by
  unfold eqv
  simp only [D.py, PyData.eqv]
  rfl
theorem eqv_scr_nil (ns : List Int) : eqv (.scr ns) (.lst []) = decide (ns = []) := by
  unfold eqv
  cases ns <;> simp [D.py, D.pyL, PyData.eqv, PyData.eqvAll]
theorem gd_ints (n : Nat) (row : List Int) : gd (n + 1) (.lst (row.map D.int)) = true := by
  unfold gd
  rw [List.all_eq_true]
  intro x hx
  obtain ⟨i, _, rfl⟩ := List.mem_map.mp hx
  cases n <;> rfl
theorem gd_tup (n : Nat) (row : List Int) : gd (n + 1) (.tup (row.map D.int)) = true := by
  unfold gd
  rw [List.all_eq_true]
  intro x hx
  obtain ⟨i, _, rfl⟩ := List.mem_map.mp hx
  cases n <;> rfl
theorem dEq_int (a b : Int) : dEq (.int a) (.int b) = .ok (.bl (decide (a = b))) := by
  unfold dEq
  rw [if_pos (by rfl), eqv_int]
theorem dNe_int (a b : Int) : dNe (.int a) (.int b) = .ok (.bl (!decide (a = b))) := by
  unfold dNe
  rw [if_pos (by rfl), eqv_int]
theorem dEq_bl (a b : Bool) : dEq (.bl a) (.bl b) = .ok (.bl (a == b)) := rfl
theorem dNe_bl (a b : Bool) : dNe (.bl a) (.bl b) = .ok (.bl (!(a == b))) := rfl
theorem dEq_ints (a b : List Int) : dEq (.lst (a.map D.int)) (.lst (b.map D.int)) = .ok (.bl (decide (a = b))) := by
  unfold dEq
  rw [if_pos (by rw [gd_ints, gd_ints]; rfl), eqv_lst_ints]
theorem dNe_ints (a b : List Int) : dNe (.lst (a.map D.int)) (.lst (b.map D.int)) = .ok (.bl (!decide (a = b))) := by
  unfold dNe
  rw [if_pos (by rw [gd_ints, gd_ints]; rfl), eqv_lst_ints]
theorem dEq_tints (a b : List Int) : dEq (.tup (a.map D.int)) (.tup (b.map D.int)) = .ok (.bl (decide (a = b))) := by
  unfold dEq
  rw [if_pos (by rw [gd_tup, gd_tup]; rfl), eqv_tup_ints]
theorem dNe_tints (a b : List Int) : dNe (.tup (a.map D.int)) (.tup (b.map D.int)) = .ok (.bl (!decide (a = b))) := by
  unfold dNe
  rw [if_pos (by rw [gd_tup, gd_tup]; rfl), eqv_tup_ints]
theorem dEq_pair (a b c d : Int) : dEq (.tup [.int a, .int b]) (.tup [.int c, .int d]) = .ok (.bl (decide (a = c ∧ b = d))) := by
  have := dEq_tints [a, b] [c, d]
  simp only [List.map_cons, List.map_nil, List.cons.injEq, and_true] at this
  exact this
theorem dNe_pair (a b c d : Int) : dNe (.tup [.int a, .int b]) (.tup [.int c, .int d]) = .ok (.bl (!decide (a = c ∧ b = d))) := by
  have := dNe_tints [a, b] [c, d]
  simp only [List.map_cons, List.map_nil, List.cons.injEq, and_true] at this
  exact this
theorem str_beq (x : Str) : (x == x) = true := by
  first | exact beq_self_eq_true x | simp
theorem eqvL_refl (n : Nat) (ih : ∀ d, gd n d = true → PyData.eqv d.py d.py = true) : ∀ xs : List D, xs.all (gd n) = true → PyData.eqvAll (D.pyL xs) (D.pyL xs) = true
  | [], _ => by simp [D.pyL, PyData.eqvAll]
  | x :: xs, h => by
    rw [List.all_cons, Bool.and_eq_true] at h
    simp only [D.pyL, PyData.eqvAll, ih x h.1, eqvL_refl n ih xs h.2, Bool.and_self]
theorem eqvP_refl : ∀ (n : Nat) (d : D), gd n d = true → PyData.eqv d.py d.py = true
  | n, .non, _ => by simp [D.py, PyData.eqv]
  | n, .bl b, _ => by simp [D.py, PyData.eqv]
  | n, .int i, _ => by simp [D.py, PyData.eqv]
  | n, .str x, _ => by
    simp only [D.py, PyData.eqv]
    exact str_beq x
  | n + 1, .lst xs, h => by
    simp only [D.py, PyData.eqv]
    exact eqvL_refl n (eqvP_refl n) xs h
  | n + 1, .tup xs, h => by
    simp only [D.py, PyData.eqv]
    exact eqvL_refl n (eqvP_refl n) xs h
  | n + 1, .scr ns, _ => by
    simp only [D.py, PyData.eqv]
    exact eqvAll_refl_ints ns
  | 0, .lst xs, h => by simp [gd] at h
  | 0, .tup xs, h => by simp [gd] at h
  | 0, .scr xs, h => by simp [gd] at h
  | 0, .fn x, h => by simp [gd] at h
  | n + 1, .fn x, h => by simp [gd] at h
  | 0, .ty x, h => by simp [gd] at h
  | n + 1, .ty x, h => by simp [gd] at h
  | 0, .opq x, h => by simp [gd] at h
  | n + 1, .opq x, h => by simp [gd] at h
theorem dNe_self {d : D} (h : gd 8 d = true) : dNe d d = .ok (.bl false) := by
  unfold dNe
  rw [h, Bool.and_self, if_pos rfl]
  unfold eqv
  rw [eqvP_refl 8 d h]
  rfl
theorem dEq_self {d : D} (h : gd 8 d = true) : dEq d d = .ok (.bl true) := by
  unfold dEq
  rw [h, Bool.and_self, if_pos rfl]
  unfold eqv
  rw [eqvP_refl 8 d h]
theorem dMod_ok {i j : Int} (h : 0 < j) : dMod (.int i) (.int j) = .ok (.int (i % j)) := by
  show (if decide (0 < j) = true then Out.ok (D.int (i % j)) else .bad) = _
  rw [if_pos (decide_eq_true h)]
theorem small_of {i : Int} (h : i.natAbs < 2 ^ 4096) : small i = true := decide_eq_true h
theorem small_lt {i : Int} (h0 : -(2 ^ 4000 : Int) < i) (h : i < 2 ^ 4000) : small i = true := by
  apply small_of
  have e : (2 : Int) ^ 4000 = ((2 ^ 4000 : Nat) : Int) := by norm_cast
  have l : (2 : Nat) ^ 4000 ≤ 2 ^ 4096 := Nat.pow_le_pow_right (by decide) (by decide)
  rw [e] at h0 h
  generalize (2 : Nat) ^ 4000 = p at *
  generalize (2 : Nat) ^ 4096 = q at *
  omega
theorem small_64 {i : Int} (h0 : -(2 ^ 64 : Int) < i) (h : i < 2 ^ 64) : small i = true := by
  apply small_lt
  · refine Int.lt_of_le_of_lt ?_ h0
    apply Int.neg_le_neg
    exact_mod_cast (Nat.pow_le_pow_right (by decide) (by decide) : (2 : Nat) ^ 64 ≤ 2 ^ 4000)
  · refine Int.lt_of_lt_of_le h ?_
    exact_mod_cast (Nat.pow_le_pow_right (by decide) (by decide) : (2 : Nat) ^ 64 ≤ 2 ^ 4000)
theorem dDiv_ok {i j : Int} (h : 0 < j) (hs : small j = true) : dDiv (.int i) (.int j) = .ok (.int (i / j)) := by
  show (if (decide (0 < j) && small j) = true then Out.ok (D.int (i / j)) else .bad) = _
  rw [if_pos (by rw [decide_eq_true h, hs]; rfl)]
theorem dDiv_64 {i j : Int} (h : 0 < j) (hs : j < 18446744073709551616) : dDiv (.int i) (.int j) = .ok (.int (i / j)) := dDiv_ok h (small_64 (by omega) (by omega))
theorem dMul_l {i j : Int} (h : i.natAbs < 2 ^ 64) : dMul (.int i) (.int j) = .ok (.int (i * j)) := by
  show (if mulOk i j = true then Out.ok (D.int (i * j)) else .bad) = _
  rw [if_pos (by unfold mulOk; rw [decide_eq_true h]; rfl)]
theorem dMul_r {i j : Int} (h : j.natAbs < 2 ^ 64) : dMul (.int i) (.int j) = .ok (.int (i * j)) := by
  show (if mulOk i j = true then Out.ok (D.int (i * j)) else .bad) = _
  rw [if_pos (by unfold mulOk; rw [decide_eq_true h, Bool.or_true]; rfl)]
theorem dMul_s {i j : Int} (h1 : small i = true) (h2 : small j = true) : dMul (.int i) (.int j) = .ok (.int (i * j)) := by
  show (if mulOk i j = true then Out.ok (D.int (i * j)) else .bad) = _
  rw [if_pos (by unfold mulOk; rw [h1, h2, Bool.and_true, Bool.or_true])]
theorem dAdd_int (i j : Int) : dAdd (.int i) (.int j) = .ok (.int (i + j)) := rfl
theorem dSub_int (i j : Int) : dSub (.int i) (.int j) = .ok (.int (i - j)) := rfl
theorem dLt_int (i j : Int) : dLt (.int i) (.int j) = .ok (.bl (decide (i < j))) := rfl
theorem dLe_int (i j : Int) : dLe (.int i) (.int j) = .ok (.bl (decide (i ≤ j))) := rfl
theorem dGt_int (i j : Int) : dGt (.int i) (.int j) = .ok (.bl (decide (j < i))) := rfl
theorem dGe_int (i j : Int) : dGe (.int i) (.int j) = .ok (.bl (decide (j ≤ i))) := rfl
theorem dLen_lst (xs : List D) : dLen (.lst xs) = .ok (.int (xs.length : Nat)) := rfl
theorem dLen_scr (xs : List Int) : dLen (.scr xs) = .ok (.int (xs.length : Nat)) := rfl
theorem dLt_pair (a b c d : Int) : dLt (.tup [.int a, .int b]) (.tup [.int c, .int d]) = .ok (.bl (decide (a < c ∨ a = c ∧ b < d))) := by
  show Out.ok (D.bl (HT.lexLt [a, b] [c, d])) = _
  rw [HT.lexLt_cons, HT.lexLt_cons, HT.lexLt_nil_nil]
  congr 2
  by_cases h : a = c
  · subst h
    rw [if_pos rfl]
    by_cases h2 : b = d
    · subst h2
      rw [if_pos rfl]
      symm
      exact decide_eq_false (by omega)
    · rw [if_neg h2]
      congr 1
      apply propext
      omega
  · rw [if_neg h]
    congr 1
    apply propext
    omega
theorem cut_from (xs : List D) (k : Nat) : cutD xs (some (k : Int)) none = xs.drop k := by
  unfold cutD
  rw [HT.sIx_nat, HT.sIx_none]
  by_cases h : k ≤ xs.length
  · rw [Nat.min_eq_left h, List.take_of_length_le (by simp)]
  · rw [Nat.min_eq_right (by omega), List.drop_of_length_le (by omega), List.drop_of_length_le (by omega)]
    simp
theorem cut_to (xs : List D) (k : Nat) : cutD xs none (some (k : Int)) = xs.take k := by
  unfold cutD
  rw [HT.sIx_nat, HT.sIx_none]
  simp
end FL
set_option Elab.async false
set_option linter.all false
set_option maxRecDepth 100000
set_option maxHeartbeats 4000000
/-! more rules: list(range(n)), sorted(ints), xs[-2::-1] -/
namespace FL
open PySem PySem.Spec PyProof.Rows L2 LamX
variable {X : Cx} {K : PySem.W.Frag} {mg : Str → Option Value} {T : List (Addr × Str)} {E : XK} {M H : Hp}
def dLRng : D → Out D
  | .int n => if 0 ≤ n ∧ n ≤ (LIM : Nat) then .ok (.lst (intsD 0 n.toNat)) else .bad
  | _ => .bad
theorem rpL_rng (n : Nat) : RpL K mg M ((List.range n).map fun i => V.int (0 + (i : Nat))) (intsD 0 n) := by
  unfold intsD
  generalize List.range n = l
  induction l with
  | nil => exact .nil
  | cons a l ih => exact .cons (.int _) ih
theorem e_listRg {a : Expr} {m : Env → Out D} {p1 p2 q1 q2 : Pos} (hc : X.calm = true) (hl : X.mg "list" = none) (hr : X.mg "range" = none) (hgl : Gl X "list") (hgr : Gl X "range") (h : PEm X T E a m)
    (na : starEach [a] X.env = (false, eval a X.env) :: starEach [] X.env := by rfl)
    (na2 : starEach [.Call (.Name "range" p1) [a] [] q1] X.env = (false, eval (.Call (.Name "range" p1) [a] [] q1) X.env) :: starEach [] X.env := by rfl) :
    PEm X T E (.Call (.Name "list" p2) [.Call (.Name "range" p1) [a] [] q1] [] q2) (m1 dLRng m) :=
  weakE (pe_listRg hc hgl hl (prg_1 hgr hr h na) na2) fun σ H Q h => by
    obtain ⟨Γ, M, H0, r, f⟩ := h
    refine ⟨Γ, M, H0, r, Fin.bind f fun d v H1 M1 _ e1 r1 f1 => ?_⟩
    have rs := r.ext e1
    cases r1 with
    | int n =>
      have f1 : Fin X.K X.mg T M1 H1 Q E (if 0 ≤ n ∧ n ≤ (LIM : Nat) then .ok (.lst (intsD 0 n.toNat)) else .bad) := f1
      by_cases hn : 0 ≤ n ∧ n ≤ (LIM : Nat)
      · rw [if_pos hn] at f1
        unfold LIM at hn
        refine ⟨n, rfl, RgOk.of_le (by omega) (by omega) (by omega) (by omega), fun q hq => ?_⟩
        have rl : RpL X.K X.mg M1 (rgV 0 n) (intsD 0 n.toNat) := by
          unfold rgV
          rw [Int.sub_zero]
          exact rpL_rng _
        obtain ⟨M', e, rr⟩ := newLst (T := T) hq rs.ms rs.nt rl
        exact f1 _ _ _ e rr
      · rw [if_neg hn] at f1
        exact f1.elim
    | _ => exact f1.elim
/-! sorted -/
def srt (ns : List Int) : List Int := ns.mergeSort (fun a b => decide (a ≤ b))
theorem srt_perm (ns : List Int) : (srt ns).Perm ns := List.mergeSort_perm _ _
theorem srt_sorted (ns : List Int) : (srt ns).Pairwise (· ≤ ·) := by
  have := List.pairwise_mergeSort (le := fun a b : Int => decide (a ≤ b)) (by intro a b c; simp; omega) (by intro a b; simp; omega) ns
  exact this.imp fun h => of_decide_eq_true h
theorem srt_eq {ns ms : List Int} (hp : ms.Perm ns) (hs : ms.Pairwise (· ≤ ·)) : ms = srt ns :=
  List.Perm.eq_of_pairwise (fun a b _ _ h1 h2 => by omega) hs (srt_sorted ns) (hp.trans (srt_perm ns).symm)
def dSorted : D → Out D := onInts fun ns => .ok (.lst ((srt ns).map D.int))
theorem cd_sorted : CallD K mg T (rSortedI K) (c1 dSorted) := cd_ints fun a ns M H Q d s nt ha hf q => by
  cases hf
  refine ⟨a, ns, rfl, SqL.of (s _ _ ha), fun ns' p h1 h2 hp => ?_⟩
  rw [srt_eq h1 h2]
  obtain ⟨M', e, rr⟩ := newLst (K := K) (mg := mg) (T := T) hp s nt (rpL_ints (srt ns))
  exact q _ _ _ e rr
theorem nx_sorted : noX1 dSorted := nx_onInts fun _ _ h => by cases h
theorem b_sorted (hm : X.mg "sorted" = none) : Bt X T "sorted" (c1 dSorted) := .fn cr_sortedI cd_sorted (nx_c1 nx_sorted) hm (by decide +kernel) (by decide) (by decide)
/-! xs[-2::-1] -/
theorem bounds2 (n : Nat) : sliceBounds (some (-2)) none (some (-1)) n = (((n - 1 : Nat) : Int) - 1, -1, -1) := by
  unfold sliceBounds
  simp only [Option.getD_some]
  have e : (max (-1) (min (-2 + (n : Int)) ((n : Int) - 1))) = ((n - 1 : Nat) : Int) - 1 := by omega
  simp [e]
  first | done | omega
theorem fmap_congr {α β : Type} {f g : α → Option β} : ∀ {l : List α}, (∀ x ∈ l, f x = g x) → l.filterMap f = l.filterMap g
  | [], _ => rfl
  | a :: l, h => by
    rw [List.filterMap_cons, List.filterMap_cons, h a List.mem_cons_self, fmap_congr fun x hx => h x (List.mem_cons_of_mem _ hx)]
theorem pick2 (items : Array Value) : slicePick items (some (-2)) none (some (-1)) = items.toList.dropLast.reverse.toArray := by
  unfold slicePick
  rw [bounds2]
  show ((sliceRange (((items.size - 1 : Nat) : Int) - 1) (-1) (-1)).filterMap (items[·]?)).toArray = _
  rw [PySem.W.krv_sliceRange, PySem.W.krv_range, List.filterMap_reverse]
  congr 2
  have h := PySem.W.krv_all items
  obtain ⟨xs⟩ := items
  simp only [List.size_toArray] at h ⊢
  by_cases h0 : xs = []
  · subst h0
    rfl
  · obtain ⟨ys, y, rfl⟩ : ∃ ys y, xs = ys ++ [y] := ⟨xs.dropLast, xs.getLast h0, (List.dropLast_concat_getLast h0).symm⟩
    have e : (ys ++ [y]).length - 1 = ys.length := by simp
    rw [e, List.dropLast_concat]
    have h2 := PySem.W.krv_all ys.toArray
    simp only [List.size_toArray] at h2
    refine Eq.trans ?_ h2
    refine fmap_congr fun i hi => ?_
    have := List.mem_range.mp hi
    simp [this, List.getElem?_append_left]
def tRev2 (K : PySem.W.Frag) (te : TE) : TE := fun σ H Q => te σ H fun x H1 => ∃ a xs, x = .ref a ∧ SqL K H1 a xs ∧ ∀ p, H1 p = none → Q (.ref p) (upd H1 p (.lst xs.dropLast.reverse))
theorem pe_rev2 {e : Expr} {te : TE} {k k2 : Nat} {p1 p2 p3 p4 p5 pos : Pos} (he : PE X e te) : PE X (.Subscript e (.Slice (some (.UnaryOp .USub (.Constant (.int 2) k2 p4) p5)) none (some (.UnaryOp .USub (.Constant (.int 1) k p1) p2)) p3) pos) (tRev2 X.K te) := by
  refine ⟨fun pins s σ H Q I h => ?_⟩
  refine Subscript_ (thn (he.run pins s σ H _ I h) fun v s1 ⟨x, H1, I1, r1, q1⟩ => ?_)
  obtain ⟨a, xs, ex, hx, q⟩ := q1
  subst ex
  cases r1
  have hst : PO X (some (.UnaryOp .USub (.Constant (.int 1) k p1) p2)) (tPart (tUn (rU fun i => .int (-i)) (tC (.int 1)))) := po_some (pe_un un_neg pe_int)
  have hlo : PO X (some (.UnaryOp .USub (.Constant (.int 2) k2 p4) p5)) (tPart (tUn (rU fun i => .int (-i)) (tC (.int 2)))) := po_some (pe_un un_neg pe_int)
  refine wpAny_Slice (thn (hlo.run pins s1 σ H1 (fun o H2 => o = some (-2) ∧ H2 = H1) I1 ⟨2, rfl, -2, rfl, rfl, rfl⟩) fun vl s2 ⟨l, H2, I2, pl, el, e2⟩ => ?_)
  subst el e2
  refine thn (po_none.run pins s2 σ H2 (fun o H3 => o = none ∧ H3 = H2) I2 ⟨rfl, rfl⟩) fun vu s3 ⟨u, H3, I3, pu, eu, e3⟩ => ?_
  subst eu e3
  refine thn (hst.run pins s3 σ H3 (fun o H4 => o = some (-1) ∧ H4 = H3) I3 ⟨1, rfl, -1, rfl, rfl, rfl⟩) fun vs s4 ⟨o, H4, I4, ps, eo, e4⟩ => ?_
  subst eo e4
  have I5 : Inv X pins σ H4 { s4 with heap := s4.heap.push { cls := .type "slice", data := .fields #[vl, vu, vs] } } := I4.kept (t' := s4.toks) fun b ob q => Heap.get?_push_of_some _ q
  obtain ⟨its, r, ht, hz⟩ := I5.list hx
  have hlen := r.length
  show wpAny (model X.prog X.w) X.A (subscriptTail e (.Slice (some (.UnaryOp .USub (.Constant (.int 2) k2 p4) p5)) none (some (.UnaryOp .USub (.Constant (.int 1) k p1) p2)) p3) (.ref a) (.ref s4.heap.objs.size)) (EP X pins σ Q) X.xe { s4 with heap := s4.heap.push { cls := .type "slice", data := .fields #[vl, vu, vs] } }
  refine tail_any (ops := [.ref a, .ref s4.heap.objs.size]) ht.isList.typeIs (PySem.slot_list_getitem.lookup) ?_ (by with_unfolding_all rfl)
  refine wpAny_getItem_list_slice ht.isList (Heap.IsSliceOf.new _ vl vu vs) pl pu ps (by decide) ?_ (by rw [List.size_toArray]; omega)
  rw [pick2]
  refine ⟨.ref _, _, I5.laid (t' := s4.toks) (o := .lst xs.dropLast.reverse) (fun b ob q => Heap.get?_push_of_some _ q) (Nat.le_refl _) ?_, rfl, q _ (I5.hok.fresh (Nat.le_refl _))⟩
  refine ⟨by rw [List.length_reverse, List.length_dropLast]; omega, _, 0, Vals.reverse ?_, Heap.get?_push_size _ rfl⟩
  rw [List.dropLast_eq_take, List.dropLast_eq_take, hlen]
  exact r.take _
def dRev2 : D → Out D
  | .lst xs => .ok (.lst xs.dropLast.reverse)
  | _ => .bad
theorem RpL.dropLast' : ∀ {vs : List V} {ds : List D}, RpL K mg M vs ds → RpL K mg M vs.dropLast ds.dropLast
  | _, _, .nil => .nil
  | _, _, .cons h .nil => .nil
  | _, _, .cons h (.cons h2 t) => .cons h (RpL.dropLast' (.cons h2 t))
theorem e_rev2 {e : Expr} {m : Env → Out D} {k k2 : Nat} {p1 p2 p3 p4 p5 pos : Pos} (h : PEm X T E e m) : PEm X T E (.Subscript e (.Slice (some (.UnaryOp .USub (.Constant (.int 2) k2 p4) p5)) none (some (.UnaryOp .USub (.Constant (.int 1) k p1) p2)) p3) pos) (m1 dRev2 m) :=
  weakE (pe_rev2 h) fun σ H Q h => by
    obtain ⟨Γ, M, H0, r, f⟩ := h
    refine ⟨Γ, M, H0, r, Fin.bind f fun d v H1 M1 _ e1 r1 f1 => ?_⟩
    have rs := r.ext e1
    cases r1 with
    | lst ha ra =>
      refine ⟨_, _, rfl, SqL.of (rs.ms _ _ ha), fun p hp => ?_⟩
      obtain ⟨M', e, rr⟩ := newLst (T := T) hp rs.ms rs.nt ra.dropLast'.reverse
      exact f1 _ _ _ e rr
    | _ => exact f1.elim
end FL
set_option Elab.async false
set_option linter.all false
set_option maxRecDepth 100000
set_option maxHeartbeats 4000000
/-! more tools for the plain laws -/
namespace FL
open PySem PySem.Spec PyProof.Rows L2 LamX
/-- a for that may leave with a told answer -/
theorem forL_all {p : Pt} {b : Env → SO} {v : D} (I : Nat → Env → Prop) (q : D → Bool) : ∀ {ds : List D} {n : Nat} {Γ : Env}, I n Γ → (∀ i d Γ, ds[i]? = some d → I (n + i) Γ → ∃ Γ1, bindP p d Γ = some Γ1 ∧ ((q d = true ∧ ∃ Γ2, b Γ1 = .nx Γ2 ∧ I (n + i + 1) Γ2) ∨ (q d = false ∧ b Γ1 = .rt v))) →
    (ds.all q = true ∧ ∃ Γ', forL p b ds Γ = .nx Γ' ∧ I (n + ds.length) Γ') ∨ (ds.all q = false ∧ forL p b ds Γ = .rt v)
  | [], n, Γ, h, _ => .inl ⟨rfl, Γ, rfl, h⟩
  | d :: ds, n, Γ, h, st => by
    obtain ⟨Γ1, h1, h2⟩ := st 0 d Γ rfl h
    rcases h2 with ⟨hq, Γ2, h2, h3⟩ | ⟨hq, h2⟩
    · have ih := forL_all I q (ds := ds) (n := n + 1) (Γ := Γ2) h3 (fun i d' Γ hi hI => by
        have := st (i + 1) d' Γ (by simpa using hi) (by rw [show n + (i + 1) = n + 1 + i by omega]; exact hI)
        rw [show n + (i + 1) + 1 = n + 1 + i + 1 by omega] at this
        exact this)
      rcases ih with ⟨e1, Γ', e2, e3⟩ | ⟨e1, e2⟩
      · refine .inl ⟨by rw [List.all_cons, hq, e1]; rfl, Γ', ?_, ?_⟩
        · simp only [forL, h1, h2, e2]
        · rw [List.length_cons, show n + (ds.length + 1) = n + 1 + ds.length by omega]
          exact e3
      · refine .inr ⟨by rw [List.all_cons, hq, e1]; rfl, ?_⟩
        simp only [forL, h1, h2, e2]
    · refine .inr ⟨by rw [List.all_cons, hq]; rfl, ?_⟩
      simp only [forL, h1, h2]
theorem dAll_map {α : Type} (xs : List α) (q : α → Bool) : dAll (.lst (xs.map fun x => D.bl (q x))) = .ok (.bl (xs.all q)) := by
  rw [show (xs.map fun x => D.bl (q x)) = (xs.map q).map D.bl by rw [List.map_map]; rfl]
  unfold dAll
  rw [onBools_map]
  congr 2
  rw [List.all_map]
  rfl
theorem dAny_map {α : Type} (xs : List α) (q : α → Bool) : dAny (.lst (xs.map fun x => D.bl (q x))) = .ok (.bl (xs.any q)) := by
  rw [show (xs.map fun x => D.bl (q x)) = (xs.map q).map D.bl by rw [List.map_map]; rfl]
  unfold dAny
  rw [onBools_map]
  congr 2
  rw [List.any_map]
  rfl
/-- neighbours -/
def consec (r : Int → Int → Bool) (xs : List Int) : Bool := (xs.zip (xs.drop 1)).all fun p => r p.1 p.2
theorem zipL_ints : ∀ xs ys : List Int, zipL (xs.map D.int) (ys.map D.int) = (xs.zip ys).map fun p => D.tup [.int p.1, .int p.2]
  | [], ys => by simp [zipL]
  | x :: xs, [] => by simp [zipL]
  | x :: xs, y :: ys => by simp [zipL, zipL_ints xs ys]
theorem all_zip {i a b : Nat} {elt : Env → Out D} {Γ : Env} {xs : List Int} (r : Int → Int → Bool) (h : mVar i Γ = .ok (.lst (xs.map D.int))) (hl : xs.length ≤ LIM)
    (he : ∀ x y, x ∈ xs → y ∈ xs → elt (setAll [a, b] [.int x, .int y] (wipeE Γ [a, b])) = .ok (.bl (r x y))) :
    mN (c1 dAll) (mCons (mComp [a, b] (.tp [a, b]) (mI zipI (mCons (mVar i) (mCons (mSl (mVar i) (oSome (mC (.int 1))) (oNone)) (mNil)))) (tYesM) elt) (mNil)) Γ = .ok (.bl (consec r xs)) := by
  have e1 : mSl (mVar i) (oSome (mC (.int 1))) (oNone) Γ = .ok (.lst ((xs.drop 1).map D.int)) := by
    unfold mSl
    rw [h]
    have := cut_from (xs.map D.int) 1
    show Out.ok (D.lst (cutD (xs.map D.int) (some 1) none)) = _
    rw [show (1 : Int) = ((1 : Nat) : Int) from rfl, this, List.map_drop]
  have e2 : mI zipI (mCons (mVar i) (mCons (mSl (mVar i) (oSome (mC (.int 1))) (oNone)) (mNil))) Γ = .ok ((xs.zip (xs.drop 1)).map fun p => D.tup [.int p.1, .int p.2]) := by
    refine mI_ok (a2_ok h e1) ?_
    show Out.ok (zipL _ _) = _
    rw [zipL_ints]
  refine b1_ok (mComp_all (fun p : Int × Int => D.tup [.int p.1, .int p.2]) (fun p => D.bl (r p.1 p.2)) e2 (fun p hp => ⟨_, rfl, ?_⟩) ?_) (dAll_map _ _)
  · obtain ⟨x, y⟩ := p
    have h2 := List.of_mem_zip hp
    exact he x y h2.1 (List.mem_of_mem_drop h2.2)
  · rw [List.length_zip]
    omega
theorem consec_and (r s : Int → Int → Bool) (xs : List Int) : consec (fun a b => r a b && s a b) xs = (consec r xs && consec s xs) := by
  unfold consec
  generalize xs.zip (xs.drop 1) = l
  induction l with
  | nil => rfl
  | cons p l ih =>
    simp only [List.all_cons, ih]
    cases r p.1 p.2 <;> cases s p.1 p.2 <;> simp
theorem consec_of {r : Int → Int → Bool} : ∀ {xs : List Int}, xs.Pairwise (fun a b => r a b = true) → consec r xs = true
  | [], _ => rfl
  | [x], _ => rfl
  | x :: y :: xs, h => by
    have ih := consec_of (r := r) (xs := y :: xs) (List.pairwise_cons.mp h).2
    have hx := (List.pairwise_cons.mp h).1 y List.mem_cons_self
    unfold consec at ih ⊢
    simp only [List.drop_succ_cons, List.drop_zero] at ih ⊢
    rw [List.zip_cons_cons, List.all_cons, hx, Bool.true_and]
    exact ih
theorem dLRng_nat {n : Nat} (h : n ≤ 16777216) : dLRng (.int (n : Nat)) = .ok (.lst (((List.range n).map fun i => ((i : Nat) : Int)).map D.int)) := by
  show (if 0 ≤ ((n : Nat) : Int) ∧ ((n : Nat) : Int) ≤ (LIM : Nat) then Out.ok (D.lst (intsD 0 ((n : Nat) : Int).toNat)) else .bad) = _
  rw [if_pos (by unfold LIM; omega), intsD_zero, List.map_map, Int.toNat_natCast]
  rfl
theorem dSorted_ints (ns : List Int) : dSorted (.lst (ns.map D.int)) = .ok (.lst ((srt ns).map D.int)) := by
  unfold dSorted
  rw [onInts_map]
/-- slices of what is a map -/
def cutG {α : Type} (xs : List α) (lo hi : Option Int) : List α := (xs.drop (HT.sIx xs.length 0 lo)).take (HT.sIx xs.length xs.length hi - HT.sIx xs.length 0 lo)
theorem cut_map {α : Type} (f : α → D) (xs : List α) (lo hi : Option Int) : cutD (xs.map f) lo hi = (cutG xs lo hi).map f := by
  unfold cutD cutG
  rw [List.length_map, List.map_take, List.map_drop]
theorem cut_mem {α : Type} {xs : List α} {lo hi : Option Int} {x : α} (h : x ∈ cutG xs lo hi) : x ∈ xs := List.mem_of_mem_drop (List.mem_of_mem_take h)
theorem cut_len {α : Type} (xs : List α) (lo hi : Option Int) : (cutG xs lo hi).length ≤ xs.length := by
  unfold cutG
  rw [List.length_take, List.length_drop]
  omega
end FL
set_option Elab.async false
set_option linter.all false
set_option maxRecDepth 100000
set_option maxHeartbeats 4000000
/-! a call of a name that holds a def -/
namespace FL
open PySem PySem.Spec PyProof.Rows L2 LamX
variable {X : Cx} {K : PySem.W.Frag} {mg : Str → Option Value} {T : List (Addr × Str)} {E : XK} {M H : Hp}
def FnAll (P : Program) (w : World) (K : PySem.W.Frag) (mg : Str → Option Value) (base : Heap) (T : List (Addr × Str)) (k n : Nat) (fs : List (Str × (List D → Out D))) : Prop := ∀ p ∈ fs, FnI P w K mg base T k p.1 n p.2
theorem fa_nil {P : Program} {w : World} {base : Heap} {k n : Nat} : FnAll P w K mg base T k n [] := fun p hp => by cases hp
theorem fa_cons {P : Program} {w : World} {base : Heap} {k n : Nat} {x : Str} {f : List D → Out D} {fs : List (Str × (List D → Out D))} (h : FnI P w K mg base T k x n f) (t : FnAll P w K mg base T k n fs) : FnAll P w K mg base T k n ((x, f) :: fs) := fun p hp => by
  rcases List.mem_cons.mp hp with rfl | hp
  · exact h
  · exact t p hp
def fnOf? (fs : List (Str × (List D → Out D))) (y : Str) : Option (List D → Out D) := (fs.find? fun p => decide (p.1 = y)).map (·.2)
def mCallV (i n : Nat) (fs : List (Str × (List D → Out D))) (ms : Env → Out (List D)) : Env → Out D := fun Γ => match Γ[i]? with
  | some (some (.dat (.fn y))) => (match fnOf? fs y with
    | some f => mN (arg n f) ms Γ
    | none => .bad)
  | _ => .bad
theorem fnOf_mem {fs : List (Str × (List D → Out D))} {y : Str} {f : List D → Out D} (h : fnOf? fs y = some f) : (y, f) ∈ fs := by
  unfold fnOf? at h
  cases q : fs.find? fun p => decide (p.1 = y) with
  | none => rw [q] at h; cases h
  | some p =>
    rw [q] at h
    have h1 := List.mem_of_find?_eq_some q
    have h0 := List.find?_some q
    have h2 : p.1 = y := by simpa using h0
    have h3 : p.2 = f := by simpa using h
    rw [← h2, ← h3]
    exact h1
theorem e_callV (i : Nat) {n k : Nat} {x : Str} {fs : List (Str × (List D → Out D))} {e : Expr} {es : List Expr} {ms : Env → Out (List D)} {p pos : Pos} (F : FnAll X.prog X.w X.K X.mg X.base T k n fs) (hr : Room k X.A) (hx : Passes (L2N.CX X.prog X.w) X E)
    (ha : PAm X T E (e :: es) ms) (hN : X.N[i]? = some x := by rfl) (hv : Vis X.env.scope x := by first | exact Or.inl rfl | exact Or.inr (Or.inl rfl) | exact Or.inr (Or.inr rfl)) (hdb : (x == ("__debug__" : Str)) = false := by decide) (hcd : (x == ("__classdict__" : Str)) = false := by decide)
    (he : starEach (e :: es) X.env = (false, eval e X.env) :: starEach es X.env := by rfl) (hpl : (backTo pos (starEach es X.env)).any (·.1) = false := by rfl) :
    PEm X T E (.Call (.Name x p) (e :: es) [] pos) (mCallV i n fs ms) := by
  refine ⟨fun pins s σ H Q I h => ?_⟩
  obtain ⟨Γ, M, H0, r, f0⟩ := h
  unfold mCallV at f0
  cases q : Γ[i]? with
  | none => rw [q] at f0; exact f0.elim
  | some o =>
    rw [q] at f0
    cases o with
    | none => exact f0.elim
    | some sl =>
      cases sl with
      | own _ => exact f0.elim
      | dct _ => exact f0.elim
      | dat d =>
        cases d with
        | fn y =>
          dsimp only at f0
          cases q2 : fnOf? fs y with
          | none => rw [q2] at f0; exact f0.elim
          | some f =>
            rw [q2] at f0
            dsimp only at f0
            obtain ⟨v, hs, hrp⟩ := r.dat i _ q
            cases hrp with
            | fn hm =>
              obtain ⟨a, fd, ps, h1, h2, h3, h4⟩ := F _ (fnOf_mem q2)
              have ea := hm.symm.trans h1
              cases ea
              refine (pe_callL (i := i) h4 hr hN hv h2 h3 .nil hx ha hdb hcd he hpl).run pins s σ H Q I ⟨hs, ?_⟩
              refine ⟨Γ, M, H0, r, FinA.bindE f0 fun d v H1 M1 _ e1 r1 f1 => ?_⟩
              have rs := r.ext e1
              unfold arg at f1
              by_cases hn : d.length = n
              · rw [if_pos hn] at f1
                have hv : v ++ [] = v := List.append_nil v
                show spOf _ _ _ _ _ (v ++ []) _ _ _
                rw [hv]
                exact ⟨by rw [r1.length]; exact hn, rs.tb, M1, d, rs.ms, rs.nt, r1, f1⟩
              · rw [if_neg hn] at f1
                exact f1.elim
        | _ => exact f0.elim
end FL
set_option Elab.async false
set_option linter.all false
set_option maxRecDepth 100000
set_option maxHeartbeats 4000000
/-! rules for tuples: t * 1, text * n, sum, sorted, len(set(t)) -/
namespace FL
open PySem PySem.Spec PyProof.Rows L2 LamX
variable {X : Cx} {K : PySem.W.Frag} {mg : Str → Option Value} {T : List (Addr × Str)} {E : XK} {M H : Hp}
/-! ### tuple * 1 -/
theorem tuple_mul1 (l : Addr) (items : Array Value) (n : Nat) (dd : Option Addr) (sl : Array (Option Value)) (u : Tok) :
    Meets (Builtin.«tuple.__mul__» ⟨[.ref l, .int 1 u], []⟩) (fun _ R s => s.heap.get? l = some { cls := .type "tuple", dict := dd, data := .seq items n, slots := sl } ∧ R (.ok (.ret (Value.ref l))) s) :=
  .of_wp fun prog w A R s h => by
    obtain ⟨hp, g, d, tk, os⟩ := s
    obtain ⟨hl, h⟩ := h
    have f1 := AutoSeq1.idx_int
    have c1 : (items.isEmpty || ((1 : Int) == 1)) = true := by simp
    wp_walk using wpAny_loadPart' hl
    all_goals first
      | exact ⟨_, rfl, h⟩
      | (rw [c1]; exact ⟨_, rfl, h⟩)
      | skip
def rTup1 (K : PySem.W.Frag) : R2 := fun x y H Q => ∃ l xs, x = .ref l ∧ y = .int 1 ∧ SqT K H l xs ∧ Q (.ref l) H
theorem op_tup1 : OpR X (binaryOp .Mult) (rTup1 X.K) := by
  intro pins s σ H x y v u Q I rx ry h
  obtain ⟨l, xs, rfl, rfl, hT, q⟩ := h
  cases rx
  obtain ⟨t, rfl⟩ := ry
  obtain ⟨its, r, ⟨⟨cls, dd, data, sl⟩, ho, hc, n, hd⟩, hs⟩ := I.tuple hT
  simp only at hc hd
  subst hc hd
  refine wpAny_binaryOp_repeat_ref (T := "tuple") (U := "int") (by decide) ⟨_, ho, rfl⟩ (fun s' => typeIs_int s' 1 t) noFill_tuple_mul F.fills_int_mul F.slot_int_rmul repeat_tuple F.slot_int_index.lookup
    (call_meets F.slot_int_rmul (typeIs_int s 1 t) F.entry_int_rmul (F.args_int_rmul_2 _ _) (int_rmul_tuple 1 t l its.toArray n dd sl)
      ⟨ho, rfl, ⟨_, ho, rfl⟩, call_meets F.slot_tuple_mul ⟨_, ho, rfl⟩ F.entry_tuple_mul (F.args_tuple_mul_2 _ _) (tuple_mul1 l its.toArray n dd sl t) ⟨ho, ?_⟩⟩)
  exact ⟨.ref l, H, I, rfl, q⟩
/-! ### text * n -/
def repS (x : Str) (n : Nat) : Str := if n = 1 then x else ⟨(List.replicate n x.cps).foldl (· ++ ·) #[]⟩
def rStrN : R2 := fun x y H Q => ∃ (z : Str) (k : Int), x = .str z ∧ y = .int k ∧ 1 ≤ k ∧ k ≤ 1000 ∧ 1 ≤ z.length ∧ z.length ≤ 1000 ∧ Q (.str (repS z k.toNat)) H
theorem size_fold (a : Array Nat) : ∀ (m : Nat) (b : Array Nat), ((List.replicate m a).foldl (· ++ ·) b).size = b.size + m * a.size
  | 0, b => by simp
  | m + 1, b => by
    rw [List.replicate_succ, List.foldl_cons, size_fold a m, Array.size_append, Nat.succ_mul]
    omega
theorem op_strN : OpR X (binaryOp .Mult) rStrN := by
  intro pins s σ H x y v u Q I rx ry h
  obtain ⟨z, k, rfl, rfl, h1, h2, h3, h4, q⟩ := h
  obtain ⟨t, rfl⟩ := rx
  obtain ⟨t2, rfl⟩ := ry
  have hlen : z.length * k.toNat ≤ 1000 * 1000 := Nat.mul_le_mul h4 (by omega)
  refine P.mul_str (by rw [decide_eq_false (by omega), decide_eq_false (by omega)]; rfl) (fun _ _ => ?_) (fun _ _ => ?_) ?_
  · have : ((2 : Int) ^ 63 - 1) / k ≥ 1000 := by
      have hk : (0 : Int) < k := by omega
      have := (Int.le_ediv_iff_mul_le hk (a := 1000) (b := (2 : Int) ^ 63 - 1)).mpr (by omega)
      exact this
    omega
  · exact decide_eq_false (by rw [sizeLine_eq]; omega)
  · rw [if_neg (by omega)]
    have hz0 : (z.length == 0) = false := beq_eq_false_iff_ne.mpr (by omega)
    unfold repS at q
    by_cases e : k = 1
    · subst e
      rw [if_pos (by rfl)]
      rw [if_pos (by rfl)] at q
      exact ⟨.str z, H, I, ⟨t, rfl⟩, q⟩
    · rw [if_neg (by rw [hz0, Bool.or_false, beq_iff_eq]; exact e)]
      rw [if_neg (by omega)] at q
      refine ⟨?_, .str _, H, I.tok _, ⟨_, rfl⟩, q⟩
      show (Array.size _) ≤ sizeLine
      rw [size_fold, sizeLine_eq]
      have : k.toNat * z.cps.size ≤ 1000 * 1000 := Nat.mul_le_mul (by omega) h4
      show 0 + k.toNat * z.cps.size ≤ _
      omega
def dMulX : D → D → Out D
  | .str x, .int k => if 1 ≤ k ∧ k ≤ 1000 ∧ 1 ≤ x.length ∧ x.length ≤ 1000 then .ok (.str (repS x k.toNat)) else .bad
  | .tup xs, .int k => if k = 1 then .ok (.tup xs) else dMul (.tup xs) (.int k)
  | _, _ => .bad
theorem nx_mulX : noX dMulX := fun a b c h => by
  unfold dMulX at h
  split at h
  · split at h <;> cases h
  · split at h
    · cases h
    · exact nx_mul _ _ _ h
  · cases h
def rMulX (K : PySem.W.Frag) : R2 := fun x y H Q => (rStrN x y H Q ∨ rTup1 K x y H Q) ∨ rMulA K x y H Q
theorem op_mulX : OpR X (binaryOp .Mult) (rMulX X.K) := (op_strN.or op_tup1).or op_mulA
theorem od_mulX : OpD K mg T (rMulX K) dMulX := fun x y dx dy M H Q d s nt rx ry h q => by
  cases rx with
  | str z =>
    cases ry with
    | int k =>
      have h : (if 1 ≤ k ∧ k ≤ 1000 ∧ 1 ≤ z.length ∧ z.length ≤ 1000 then Out.ok (D.str (repS z k.toNat)) else .bad) = .ok d := h
      by_cases hl : 1 ≤ k ∧ k ≤ 1000 ∧ 1 ≤ z.length ∧ z.length ≤ 1000
      · rw [if_pos hl] at h
        cases h
        exact .inl (.inl ⟨z, k, rfl, rfl, hl.1, hl.2.1, hl.2.2.1, hl.2.2.2, q _ _ _ (Ext.refl s nt) (.str _)⟩)
      · rw [if_neg hl] at h
        cases h
    | _ => cases h
  | @tup a vs xs ha ra =>
    cases ry with
    | int k =>
      have h : (if k = 1 then Out.ok (D.tup xs) else dMul (.tup xs) (.int k)) = .ok d := h
      by_cases hk : k = 1
      · rw [if_pos hk] at h
        cases h
        subst hk
        exact .inl (.inr ⟨a, vs, rfl, rfl, same_sqT s ha, q _ _ _ (Ext.refl s nt) (.tup ha ra)⟩)
      · rw [if_neg hk] at h
        exact .inr (od_mul (T := T) _ _ _ _ M H Q d s nt (.tup ha ra) (.int k) h q)
    | _ => cases h
  | _ => cases h
theorem e_mulX {a b : Expr} {ma mb : Env → Out D} {pos : Pos} (ha : PEm X T E a ma) (hb : PEm X T E b mb) : PEm X T E (.BinOp a .Mult b pos) (m2 dMulX ma mb) := e_op op_mulX od_mulX nx_mulX ha hb
/-! ### sum of a tuple -/
def rSumT (K : PySem.W.Frag) : List V → Hp → VK → Prop := fun vs H Q => ∃ (a : Addr) (ns : List Int), vs = [V.ref a] ∧ SqT K H a (ns.map V.int) ∧ Q (.int ns.sum) H
theorem cr_sumT (hc : X.calm = true) : CallR X (.builtin "sum") (rSumT X.K) := by
  intro pins s σ H vs us Q I r h
  obtain ⟨a, ns, rfl, hs, q⟩ := h
  obtain ⟨its, rv, hl, _⟩ := I.tuple hs
  rw [Vals.ref1 r]
  have hi := rv.ints
  obtain ⟨xs, e⟩ := hi.allInts.items
  have hn : numsOf (intItems xs).toList = ns := by rw [← e]; exact hi.numsOf
  rw [nums_intItems] at hn
  rw [e] at hl
  refine PySem.W.ktm_sumG (I.ok.hd hc) hl fun h' tk t' hk => ?_
  rw [preSum_eq, List.take_of_length_le (by simp), hn]
  exact ⟨.int _, H, I.kept hk, ⟨_, rfl⟩, q⟩
def onIntsT (f : List Int → Out D) : D → Out D
  | .tup xs => (match toInts xs with
    | some ns => f ns
    | none => .bad)
  | _ => .bad
theorem onIntsT_map {f : List Int → Out D} {ns : List Int} : onIntsT f (.tup (ns.map D.int)) = f ns := by
  show (match toInts (ns.map D.int) with | some ns => f ns | none => .bad) = f ns
  rw [toInts_map]
theorem cd_intsT {r : List V → Hp → VK → Prop} {f : List Int → Out D} (h : ∀ a ns M H Q d, Same M H → (∀ a ps, M a ≠ some (.tbl ps)) → SqT K M a (ns.map V.int) → f ns = .ok d → (∀ v H' M', Ext T M H M' H' → Rp K mg M' v d → Q v H') → r [V.ref a] H Q) : CallD K mg T r (c1 (onIntsT f)) := cd_1 fun x dx M H Q d s nt rx hf q => by
  cases rx with
  | @tup a vs xs ha ra =>
    have hf : (match toInts xs with | some ns => f ns | none => .bad) = .ok d := hf
    cases e : toInts xs with
    | none => rw [e] at hf; cases hf
    | some ns =>
      rw [e] at hf
      rw [toInts_rp ra e] at ha
      exact h a ns M H Q d s nt ha hf q
  | _ => cases hf
theorem nx_onIntsT {f : List Int → Out D} (h : ∀ ns c, f ns ≠ .exc c) : noX1 (onIntsT f) := fun d c z => by
  unfold onIntsT at z
  split at z
  · split at z
    · exact h _ _ z
    · cases z
  · cases z
def dSumT : D → Out D := onIntsT fun ns => .ok (.int ns.sum)
theorem b_sumT (hc : X.calm = true) (hm : X.mg "sum" = none) : Bt X T "sum" (c1 dSumT) := .fn (cr_sumT hc) (cd_intsT fun a ns M H Q d s nt ha hf q => by
  cases hf
  exact ⟨a, ns, rfl, same_sqT s ha, q _ _ _ (Ext.refl s nt) (.int _)⟩) (nx_c1 (nx_onIntsT fun _ _ h => by cases h)) hm (by decide +kernel) (by decide) (by decide)
end FL
set_option Elab.async false
set_option linter.all false
set_option maxRecDepth 100000
set_option maxHeartbeats 4000000
/-! sorted(t) of a tuple of ints; len(set(t)), sorted(set(t)) -/
namespace FL
open PySem PySem.Spec PyProof.Rows L2 LamX
variable {X : Cx} {K : PySem.W.Frag} {mg : Str → Option Value} {T : List (Addr × Str)} {E : XK} {M H : Hp}
def rSortedT (K : PySem.W.Frag) : List V → Hp → VK → Prop := fun vs H Q => ∃ (a : Addr) (ns : List Int), vs = [V.ref a] ∧ SqT K H a (ns.map V.int) ∧ ns.length < 64 ∧
  ∀ (ns' : List Int) (p : Addr), ns'.Perm ns → ns'.Pairwise (· ≤ ·) → H p = none → Q (.ref p) (upd H p (.lst (ns'.map V.int)))
theorem cr_sortedIT : CallR X (.builtin "sorted") (FL.rSortedT X.K) := by
  intro pins s σ H vs us Q I r h
  obtain ⟨a, ns, rfl, hs, h64, q⟩ := h
  obtain ⟨its, rv, ⟨o, ho, hc, n, hd⟩, hz⟩ := I.tuple hs
  rw [Vals.ref1 r]
  have hi := rv.ints
  have hle : its.length = ns.length := by
    have := rv.length
    rw [List.length_map] at this
    exact this.symm
  refine Calls.call_function_entry kind_sorted plain_sorted entry_sorted (args_sorted1 _) ?_
  unfold Builtin.«sorted»
  refine wpAny_bind (m := checkCount "sorted" 1 1 _) (wpAny_pure ?_)
  refine wpAny_bind (wpAny_collect_seq a (.inr rfl) ho hc hd (fun h' hk => ?_) (by rw [List.size_toArray, hle, sizeLine_eq]; omega))
  rw [show its.toArray.toList = its from rfl]
  refine wpAny_bind (wpAny_newList ?_ (by rw [hle, sizeLine_eq]; omega))
  have hoL : (h'.push (seqObj "list" its.toArray 0)).get? h'.objs.size = some (seqObj "list" its.toArray 0) := Heap.get?_push_size _ rfl
  refine wpAny_bind (wpAny_holding (wpAny_call_entry slot_list_sort ⟨_, hoL, rfl⟩ entry_list_sort (list_sort_tree hoL hi (by rw [hle]; exact h64) fun out ns' a1 a2 a3 => ⟨_, rfl, ?_⟩) (args_list_sort _)))
  obtain ⟨c, hc2⟩ := sortedHeap_at (vs := its) (out := out) hoL
  have I1 : Inv X pins σ H { s with heap := h' } := I.kept (t' := s.toks) hk
  have hlen : (ns'.map V.int).length ≤ sizeLine := by rw [List.length_map, a2.length_eq, sizeLine_eq]; omega
  refine wpAny_pure ⟨_, rfl, .ref h'.objs.size, upd H h'.objs.size (.lst (ns'.map V.int)), I1.laid (t' := s.toks) (fun b u e => ?_) (Nat.le_refl _) ⟨hlen, out.toList, c, vals_of_ints a1, hc2⟩, rfl, q _ _ a2 a3 (I1.hok.fresh (Nat.le_refl _))⟩
  have hlt := Heap.lt_size e
  show (sortedHeap (h'.push (seqObj "list" its.toArray 0)) h'.objs.size its out).get? b = some u
  rw [sortedHeap_old (Nat.ne_of_lt hlt) (by rw [size_push']; exact Nat.lt_succ_of_lt hlt)]
  exact Heap.get?_push_of_some _ e
def dSortedT : D → Out D := onIntsT fun ns => if ns.length < 64 then .ok (.lst ((srt ns).map D.int)) else .bad
theorem b_sortedT (hm : X.mg "sorted" = none) : Bt X T "sorted" (c1 dSortedT) := .fn cr_sortedIT (cd_intsT fun a ns M H Q d s nt ha hf q => by
  by_cases hl : ns.length < 64
  · rw [if_pos hl] at hf
    cases hf
    refine ⟨a, ns, rfl, same_sqT s ha, hl, fun ns' p h1 h2 hp => ?_⟩
    rw [srt_eq h1 h2]
    obtain ⟨M', e, rr⟩ := newLst (K := X.K) (mg := X.mg) (T := T) hp s nt (rpL_ints (srt ns))
    exact q _ _ _ e rr
  · rw [if_neg hl] at hf
    cases hf) (nx_c1 (nx_onIntsT fun _ _ h => by split at h <;> cases h)) hm (by decide +kernel) (by decide) (by decide)
/-! ### len(set(t)), sorted(set(t)) -/
def dd : List Int → List Int
  | [] => []
  | x :: xs => if x ∈ xs then dd xs else x :: dd xs
theorem dd_mem {k : Int} : ∀ {ns : List Int}, k ∈ dd ns ↔ k ∈ ns
  | [] => Iff.rfl
  | x :: xs => by
    unfold dd
    by_cases h : x ∈ xs
    · rw [if_pos h, dd_mem, List.mem_cons]
      exact ⟨.inr, fun z => z.elim (fun e => e ▸ h) id⟩
    · rw [if_neg h, List.mem_cons, List.mem_cons, dd_mem]
theorem dd_nodup : ∀ ns : List Int, (dd ns).Nodup
  | [] => List.nodup_nil
  | x :: xs => by
    unfold dd
    by_cases h : x ∈ xs
    · rw [if_pos h]
      exact dd_nodup xs
    · rw [if_neg h]
      exact List.nodup_cons.mpr ⟨fun z => h (dd_mem.mp z), dd_nodup xs⟩
def dis (ns : List Int) : List Int := srt (dd ns)
theorem dis_mem {ns : List Int} {k : Int} : k ∈ dis ns ↔ k ∈ ns := by
  unfold dis
  rw [(srt_perm _).mem_iff]
  exact dd_mem
theorem dis_nodup (ns : List Int) : (dis ns).Nodup := (srt_perm _).nodup_iff.mpr (dd_nodup ns)
theorem len_of {xs ns : List Int} (hn : xs.Nodup) (hm : ∀ k, k ∈ xs ↔ k ∈ ns) : xs.length = (dis ns).length :=
  ((List.perm_ext_iff_of_nodup hn (dis_nodup ns)).mpr fun k => by rw [hm, dis_mem]).length_eq
def tLenSetT (K : PySem.W.Frag) (ta : TE) : TE := fun σ H Q => ta σ H fun x H1 => ∃ (l : Addr) (ns : List Int), x = .ref l ∧ SqT K H1 l (ns.map V.int) ∧ ns.length ≤ 4000 ∧ Q (.int ((dis ns).length : Nat)) H1
theorem pe_lenSetT {a : Expr} {ta : TE} {p p2 q pos : Pos} (hc : X.calm = true) (hg : Gl X "len") (hm : X.mg "len" = none) (hg2 : Gl X "set") (hm2 : X.mg "set" = none) (ha : PE X a ta)
    (na : starEach [a] X.env = (false, eval a X.env) :: starEach [] X.env := by rfl) : PE X (.Call (.Name "len" p) [.Call (.Name "set" p2) [a] [] q] [] pos) (tLenSetT X.K ta) := by
  refine ⟨fun pins s σ H Q I h => ?_⟩
  refine Call_ (ld_blt I hg hm boot_len ?_)
  refine PyProof.Rows.callWith_builtin1 (PyProof.Rows.args_cons ?_ rfl) rfl rfl
  refine Call_ (ld_blt I hg2 hm2 boot_set ?_)
  refine PyProof.Rows.callWith_type1 (PyProof.Rows.args_cons (thn (ha.run pins s σ H _ I h) fun v s1 ⟨x, H1, I1, r1, q1⟩ => PyProof.Rows.args_nil ?_) na) na rfl
  obtain ⟨l, ns, rfl, hq, hl, q1⟩ := q1
  cases r1
  obtain ⟨its, r, pl, hz⟩ := I1.tuple hq
  refine call_set_tupI ns (I1.ok.hd hc) pl (by simpa using r.ints) (by unfold scanBound; omega) fun h' tk c hS hcl hk => ?_
  refine PyProof.Rows.args_nil ?_
  obtain ⟨o, es, ep, t, ho, hex, hd, _, nd, hmm, hb, hf, hn, _⟩ := hS
  have I2 : Inv X pins σ H1 { s1 with heap := h', toks := tk } := I1.kept hk
  have hlen : es.size = (dis ns).length := by
    have := len_of (ns := ns) nd (fun k => by rw [← hmm k]; simp)
    rw [List.length_map, Array.length_toList] at this
    exact this
  refine call_len_set ho hex hd hf (by have := hcl; omega) ⟨.int ((dis ns).length : Nat), H1, I2.tok _, ⟨_, by rw [hlen]⟩, q1⟩
def dLenSet : D → Out D := onIntsT fun ns => if ns.length ≤ 4000 then .ok (.int ((dis ns).length : Nat)) else .bad
theorem e_lenset {a : Expr} {m : Env → Out D} {p p2 q pos : Pos} (hc : X.calm = true) (hg : Gl X "len") (hg2 : Gl X "set") (hm : X.mg "len" = none) (hm2 : X.mg "set" = none) (ha : PEm X T E a m)
    (na : starEach [a] X.env = (false, eval a X.env) :: starEach [] X.env := by rfl) : PEm X T E (.Call (.Name "len" p) [.Call (.Name "set" p2) [a] [] q] [] pos) (m1 dLenSet m) :=
  weakE (pe_lenSetT hc hg hm hg2 hm2 ha na) fun σ H Q h => by
    obtain ⟨Γ, M, H0, r, f⟩ := h
    refine ⟨Γ, M, H0, r, Fin.bind f fun d v H1 M1 _ e1 r1 f1 => ?_⟩
    have rs := r.ext e1
    cases r1 with
    | @tup a vs xs ha ra =>
      have f1 : Fin X.K X.mg T M1 H1 Q E (match toInts xs with | some ns => (if ns.length ≤ 4000 then .ok (.int ((dis ns).length : Nat)) else .bad) | none => .bad) := f1
      cases e : toInts xs with
      | none => rw [e] at f1; exact f1.elim
      | some ns =>
        rw [e] at f1
        have f1 : Fin X.K X.mg T M1 H1 Q E (if ns.length ≤ 4000 then .ok (.int ((dis ns).length : Nat)) else .bad) := f1
        rw [toInts_rp ra e] at ha
        by_cases hl : ns.length ≤ 4000
        · rw [if_pos hl] at f1
          exact ⟨a, ns, rfl, same_sqT rs.ms ha, hl, f1 _ _ _ rs.ext0 (.int _)⟩
        · rw [if_neg hl] at f1
          exact f1.elim
    | _ => exact f1.elim
end FL
set_option Elab.async false
set_option linter.all false
set_option maxRecDepth 100000
set_option maxHeartbeats 4000000
/-! words: tuples of ints; lists of words -/
namespace FL
open PySem PySem.Spec PyProof.Rows L2 LamX
def wD (w : List Int) : D := .tup (w.map D.int)
def wsD (ws : List (List Int)) : D := .lst (ws.map wD)
theorem enum_map {α : Type} (f : α → D) (z : α) (xs : List α) : enumI [.lst (xs.map f)] = .ok ((List.range xs.length).map fun i => D.tup [.int ((i : Nat) : Int), f (xs.getD i z)]) := by
  show Out.ok _ = Out.ok _
  congr 1
  apply List.ext_getElem?
  intro i
  simp only [List.getElem?_mapIdx, List.getElem?_map]
  by_cases h : i < xs.length
  · simp [h, List.getD]
  · simp [h]
theorem zipL_map {α β : Type} (f : α → D) (g : β → D) : ∀ (xs : List α) (ys : List β), zipL (xs.map f) (ys.map g) = (xs.zip ys).map fun p => D.tup [f p.1, g p.2]
  | [], ys => by simp [zipL]
  | x :: xs, [] => by simp [zipL]
  | x :: xs, y :: ys => by simp [zipL, zipL_map f g xs ys]
theorem ix_map {α : Type} (f : α → D) (z : α) {xs : List α} {j : Nat} (h : j < xs.length) : dIx (.lst (xs.map f)) (.int (j : Nat)) = .ok (f (xs.getD j z)) := by
  refine dIx_lst (j := j) rfl ?_
  rw [List.getElem?_map]
  simp [List.getD, h]
theorem ix_mapAt {α : Type} (f : α → D) (z : α) {xs : List α} {i : Int} (h0 : 0 ≤ i) (h : i < xs.length) : dIx (.lst (xs.map f)) (.int i) = .ok (f (xs.getD i.toNat z)) := by
  obtain ⟨j, rfl⟩ : ∃ j : Nat, i = j := ⟨i.toNat, by omega⟩
  rw [ix_map f z (by omega), Int.toNat_natCast]
theorem ixT_ints {w : List Int} {j : Nat} (h : j < w.length) : dIx (wD w) (.int (j : Nat)) = .ok (.int (w.getD j 0)) := by
  show (match atI (w.map D.int) ((j : Nat) : Int) with | some d => Out.ok d | none => .bad) = _
  have : (w.map D.int)[j]? = some (.int (w.getD j 0)) := by
    rw [List.getElem?_map]
    simp [List.getD, h]
  rw [atI_nat this]
theorem len_wD (w : List Int) : dLen (wD w) = .ok (.int (w.length : Nat)) := by
  show Out.ok _ = _
  rw [List.length_map]
theorem len_wsD (ws : List (List Int)) : dLen (wsD ws) = .ok (.int (ws.length : Nat)) := by
  show Out.ok _ = _
  rw [List.length_map]
theorem lt_wD (a b : List Int) : dLt (wD a) (wD b) = .ok (.bl (HT.lexLt a b)) := by
  show (match toInts (a.map D.int), toInts (b.map D.int) with | some ns, some ms => Out.ok (D.bl (HT.lexLt ns ms)) | _, _ => .bad) = _
  rw [toInts_map, toInts_map]
theorem lex_irrefl : ∀ a : List Int, HT.lexLt a a = false
  | [] => rfl
  | x :: xs => by
    rw [HT.lexLt_cons, if_pos rfl]
    exact lex_irrefl xs
theorem lex_asymm : ∀ {a b : List Int}, HT.lexLt a b = true → HT.lexLt b a = false
  | [], [], _ => rfl
  | [], _ :: _, _ => rfl
  | _ :: _, [], h => by cases h
  | x :: xs, y :: ys, h => by
    rw [HT.lexLt_cons] at h ⊢
    by_cases e : x = y
    · rw [if_pos e] at h
      rw [if_pos e.symm]
      exact lex_asymm h
    · rw [if_neg e, decide_eq_true_iff] at h
      rw [if_neg (fun z => e z.symm), decide_eq_false_iff_not]
      omega
theorem lex_trans : ∀ {a b c : List Int}, HT.lexLt a b = true → HT.lexLt b c = true → HT.lexLt a c = true
  | [], [], _, h, _ => by cases h
  | [], _ :: _, [], _, h => by cases h
  | [], _ :: _, _ :: _, _, _ => rfl
  | _ :: _, [], _, h, _ => by cases h
  | _ :: _, _ :: _, [], _, h => by cases h
  | x :: xs, y :: ys, z :: zs, h1, h2 => by
    rw [HT.lexLt_cons] at h1 h2 ⊢
    by_cases e1 : x = y
    · rw [if_pos e1] at h1
      subst e1
      by_cases e2 : x = z
      · rw [if_pos e2] at h2 ⊢
        exact lex_trans h1 h2
      · rw [if_neg e2] at h2 ⊢
        exact h2
    · rw [if_neg e1, decide_eq_true_iff] at h1
      by_cases e2 : y = z
      · subst e2
        rw [if_neg e1, decide_eq_true_iff]
        exact h1
      · rw [if_neg e2, decide_eq_true_iff] at h2
        rw [if_neg (by omega), decide_eq_true_iff]
        omega
theorem lex_snoc : ∀ {a b : List Int} {x y : Int}, a.length = b.length → HT.lexLt (a ++ [x]) (b ++ [y]) = if a = b then decide (x < y) else HT.lexLt a b
  | [], [], x, y, _ => by
    rw [if_pos rfl, List.nil_append, List.nil_append, HT.lexLt_cons, HT.lexLt_nil_nil]
    by_cases e : x = y
    · rw [if_pos e, decide_eq_false (by omega)]
    · rw [if_neg e]
  | [], _ :: _, _, _, h => by simp at h
  | _ :: _, [], _, _, h => by simp at h
  | p :: a, q :: b, x, y, h => by
    rw [List.cons_append, List.cons_append, HT.lexLt_cons, HT.lexLt_cons]
    have ih := lex_snoc (a := a) (b := b) (x := x) (y := y) (by simpa using h)
    by_cases e : p = q
    · subst e
      rw [if_pos rfl, if_pos rfl, ih]
      by_cases e2 : a = b
      · rw [if_pos e2, if_pos (by rw [e2])]
      · rw [if_neg e2, if_neg (fun z => e2 (List.cons.inj z).2)]
    · rw [if_neg e, if_neg (fun z => e (List.cons.inj z).1), if_neg e]
/-! all words -/
def allw (L : Nat) : Nat → List (List Int)
  | 0 => [[]]
  | n + 1 => (allw L n).flatMap fun w => (List.range L).map fun l => w ++ [((l : Nat) : Int)]
theorem allw_mem {L : Nat} : ∀ {n : Nat} {w : List Int}, w ∈ allw L n ↔ w.length = n ∧ ∀ x ∈ w, 0 ≤ x ∧ x < (L : Int)
  | 0, w => by
    unfold allw
    rw [List.mem_singleton]
    constructor
    · rintro rfl
      exact ⟨rfl, fun x hx => by cases hx⟩
    · rintro ⟨h, _⟩
      exact List.length_eq_zero_iff.mp h
  | n + 1, w => by
    unfold allw
    rw [List.mem_flatMap]
    constructor
    · rintro ⟨v, hv, hw⟩
      obtain ⟨l, hl, rfl⟩ := List.mem_map.mp hw
      obtain ⟨h1, h2⟩ := allw_mem.mp hv
      have hl := List.mem_range.mp hl
      refine ⟨by rw [List.length_append, h1]; rfl, fun x hx => ?_⟩
      rcases List.mem_append.mp hx with h | h
      · exact h2 x h
      · rw [List.mem_singleton] at h
        omega
    · rintro ⟨h1, h2⟩
      have hne : w ≠ [] := fun z => by rw [z] at h1; simp at h1
      have e := List.dropLast_concat_getLast hne
      refine ⟨w.dropLast, allw_mem.mpr ⟨by rw [List.length_dropLast, h1]; rfl, fun x hx => h2 x (List.dropLast_subset w hx)⟩, List.mem_map.mpr ⟨(w.getLast hne).toNat, ?_, ?_⟩⟩
      · have := h2 _ (List.getLast_mem hne)
        rw [List.mem_range]
        omega
      · have := h2 _ (List.getLast_mem hne)
        rw [Int.toNat_of_nonneg this.1, e]
theorem allw_pw (L : Nat) : ∀ n : Nat, (allw L n).Pairwise fun a b => HT.lexLt a b = true
  | 0 => List.pairwise_singleton _ _
  | n + 1 => by
    unfold allw
    rw [List.pairwise_flatMap]
    refine ⟨fun w hw => ?_, List.Pairwise.imp_of_mem (fun {a b} ha hb hab x hx y hy => ?_) (allw_pw L n)⟩
    · rw [List.pairwise_map]
      refine List.pairwise_lt_range.imp fun {a b} h => ?_
      rw [lex_snoc rfl, if_pos rfl, decide_eq_true_iff]
      omega
    · obtain ⟨l, _, rfl⟩ := List.mem_map.mp hx
      obtain ⟨l2, _, rfl⟩ := List.mem_map.mp hy
      have h1 := (allw_mem.mp ha).1
      have h2 := (allw_mem.mp hb).1
      rw [lex_snoc (by omega), if_neg (fun z => by rw [z, lex_irrefl] at hab; cases hab)]
      exact hab
theorem allw_len (L : Nat) : ∀ n : Nat, (allw L n).length = L ^ n
  | 0 => rfl
  | n + 1 => by
    unfold allw
    have : ∀ l : List (List Int), (l.flatMap fun w => (List.range L).map fun l => w ++ [((l : Nat) : Int)]).length = l.length * L := fun l => by
      induction l with
      | nil => simp
      | cons a l ih =>
        rw [List.flatMap_cons, List.length_append, ih, List.length_map, List.length_range, List.length_cons, Nat.succ_mul]
        omega
    rw [this, allw_len L n, Nat.pow_succ]
/-- neighbours in a list of words -/
def riseW (ws : List (List Int)) : Bool := (ws.zip (ws.drop 1)).all fun p => HT.lexLt p.1 p.2
theorem riseW_of : ∀ {ws : List (List Int)}, ws.Pairwise (fun a b => HT.lexLt a b = true) → riseW ws = true
  | [], _ => rfl
  | [x], _ => rfl
  | x :: y :: xs, h => by
    have ih := riseW_of (ws := y :: xs) (List.pairwise_cons.mp h).2
    have hx := (List.pairwise_cons.mp h).1 y List.mem_cons_self
    unfold riseW at ih ⊢
    simp only [List.drop_succ_cons, List.drop_zero] at ih ⊢
    rw [List.zip_cons_cons, List.all_cons, hx, Bool.true_and]
    exact ih
/-- how far two words are apart -/
def ham (w v : List Int) : Nat := ((List.range w.length).filter fun i => !decide (w.getD i 0 = v.getD i 0)).length
theorem zip_range : ∀ (w v : List Int), w.length = v.length → w.zip v = (List.range w.length).map fun i => (w.getD i 0, v.getD i 0)
  | [], [], _ => rfl
  | [], _ :: _, h => by simp at h
  | _ :: _, [], h => by simp at h
  | a :: w, b :: v, h => by
    rw [List.zip_cons_cons, zip_range w v (by simpa using h), List.length_cons, List.range_succ_eq_map, List.map_cons, List.map_map]
    rfl
theorem sum_if {α : Type} (q : α → Bool) : ∀ l : List α, (l.map fun x => if q x = true then (1 : Int) else 0).sum = ((l.filter q).length : Nat)
  | [] => rfl
  | a :: l => by
    rw [List.map_cons, List.sum_cons, sum_if q l, List.filter_cons]
    split <;> simp <;> omega
theorem ham_zip {w v : List Int} (h : w.length = v.length) : ((w.zip v).map fun p => if (!decide (p.1 = p.2)) = true then (1 : Int) else 0).sum = (ham w v : Nat) := by
  rw [zip_range w v h, List.map_map]
  have := sum_if (fun i => !decide (w.getD i 0 = v.getD i 0)) (List.range w.length)
  exact this
end FL
set_option Elab.async false
set_option linter.all false
set_option maxRecDepth 100000
set_option maxHeartbeats 4000000
/-! sorted(set(t)) of a tuple of ints -/
namespace FL
open PySem PySem.Spec PyProof.Rows L2 LamX
variable {X : Cx} {K : PySem.W.Frag} {mg : Str → Option Value} {T : List (Addr × Str)} {E : XK} {M H : Hp}
theorem dis_eq {ns xs : List Int} (hp : xs.Pairwise (· < ·)) (hm : ∀ k, k ∈ xs ↔ k ∈ ns) : xs = dis ns := by
  unfold dis
  refine srt_eq ?_ (hp.imp fun h => by omega)
  refine (List.perm_ext_iff_of_nodup ?_ (dd_nodup ns)).mpr fun k => by rw [hm, dd_mem]
  exact hp.imp fun h e => by omega
def tSortSet (K : PySem.W.Frag) (ta : TE) : TE := fun σ H Q => ta σ H fun x H1 => ∃ (l : Addr) (ns : List Int), x = .ref l ∧ SqT K H1 l (ns.map V.int) ∧ ns.length < 64 ∧ ∀ p, H1 p = none → Q (.ref p) (upd H1 p (.lst ((dis ns).map V.int)))
theorem pe_sortSet {a : Expr} {ta : TE} {p p2 q pos : Pos} (hc : X.calm = true) (hg : Gl X "sorted") (hm : X.mg "sorted" = none) (hg2 : Gl X "set") (hm2 : X.mg "set" = none) (ha : PE X a ta)
    (na : starEach [a] X.env = (false, eval a X.env) :: starEach [] X.env := by rfl) : PE X (.Call (.Name "sorted" p) [.Call (.Name "set" p2) [a] [] q] [] pos) (tSortSet X.K ta) := by
  refine ⟨fun pins s σ H Q I h => ?_⟩
  refine Call_ (ld_blt I hg hm boot_sorted ?_)
  refine PyProof.Rows.callWith_builtin1 (PyProof.Rows.args_cons ?_ rfl) rfl rfl
  refine Call_ (ld_blt I hg2 hm2 boot_set ?_)
  refine PyProof.Rows.callWith_type1 (PyProof.Rows.args_cons (thn (ha.run pins s σ H _ I h) fun v s1 ⟨x, H1, I1, r1, q1⟩ => PyProof.Rows.args_nil ?_) na) na rfl
  obtain ⟨l, ns, rfl, hq, hl, q1⟩ := q1
  cases r1
  obtain ⟨its, r, pl, hz⟩ := I1.tuple hq
  refine call_set_tupI ns (I1.ok.hd hc) pl (by simpa using r.ints) (by unfold scanBound; omega) fun h' tk c hS hcl hk => ?_
  refine PyProof.Rows.args_nil ?_
  have I2 : Inv X pins σ H1 { s1 with heap := h', toks := tk } := I1.kept hk
  have hS2 : SetR X.w ({ s1 with heap := h', toks := tk } : Shared).heap s1.heap.objs.size (fun j => decide (j ∈ ns)) c := hS
  generalize ({ s1 with heap := h', toks := tk } : Shared) = s2 at I2 hS2 ⊢
  refine sorted_set hS2 (I1.ok.hd hc) (by omega) fun s' p out c2 xs k g o hp hg2 hi hs hmm hl2 => ?_
  have e2 : xs = dis ns := dis_eq hs (fun k => by rw [hmm]; simp)
  subst e2
  have hlen : ((dis ns).map V.int).length ≤ sizeLine := by rw [List.length_map, hl2, sizeLine_eq]; omega
  have hn : H1 p = none := I2.hok.fresh hp
  have J : Inv X pins σ (upd H1 p (.lst ((dis ns).map V.int))) { s2 with heap := s'.heap, gens := s'.gens, drawn := s'.drawn, toks := s'.toks } :=
    I2.call (ch := []) (Un.laid k hp hn) (I2.hok.laid k hp ⟨hlen, out.toList, c2, vals_of_ints hi, hg2⟩) (by rw [g]; exact I2.bare) (fun _ z => nomatch z)
  have e : s' = { s2 with heap := s'.heap, gens := s'.gens, drawn := s'.drawn, toks := s'.toks } := by
    cases s'
    cases s2
    cases o
    rfl
  rw [e]
  exact ⟨.ref p, _, J, rfl, q1 p hn⟩
def dSortSet : D → Out D := onIntsT fun ns => if ns.length < 64 then .ok (.lst ((dis ns).map D.int)) else .bad
theorem e_sortset {a : Expr} {m : Env → Out D} {p p2 q pos : Pos} (hc : X.calm = true) (hg : Gl X "sorted") (hg2 : Gl X "set") (hm : X.mg "sorted" = none) (hm2 : X.mg "set" = none) (ha : PEm X T E a m)
    (na : starEach [a] X.env = (false, eval a X.env) :: starEach [] X.env := by rfl) : PEm X T E (.Call (.Name "sorted" p) [.Call (.Name "set" p2) [a] [] q] [] pos) (m1 dSortSet m) :=
  weakE (pe_sortSet hc hg hm hg2 hm2 ha na) fun σ H Q h => by
    obtain ⟨Γ, M, H0, r, f⟩ := h
    refine ⟨Γ, M, H0, r, Fin.bind f fun d v H1 M1 _ e1 r1 f1 => ?_⟩
    have rs := r.ext e1
    cases r1 with
    | @tup a vs xs ha ra =>
      have f1 : Fin X.K X.mg T M1 H1 Q E (match toInts xs with | some ns => (if ns.length < 64 then .ok (.lst ((dis ns).map D.int)) else .bad) | none => .bad) := f1
      cases e : toInts xs with
      | none => rw [e] at f1; exact f1.elim
      | some ns =>
        rw [e] at f1
        have f1 : Fin X.K X.mg T M1 H1 Q E (if ns.length < 64 then .ok (.lst ((dis ns).map D.int)) else .bad) := f1
        rw [toInts_rp ra e] at ha
        by_cases hl : ns.length < 64
        · rw [if_pos hl] at f1
          refine ⟨a, ns, rfl, same_sqT rs.ms ha, hl, fun p hp => ?_⟩
          obtain ⟨M', e, rr⟩ := newLst (K := X.K) (mg := X.mg) (T := T) hp rs.ms rs.nt (rpL_ints (dis ns))
          exact f1 _ _ _ e rr
        · rw [if_neg hl] at f1
          exact f1.elim
    | _ => exact f1.elim
end FL
set_option Elab.async false
set_option linter.all false
set_option maxRecDepth 100000
set_option maxHeartbeats 4000000
/-! xs.count(y) of data -/
namespace FL
open PySem PySem.Spec PyProof.Rows L2 LamX
variable {X : Cx} {K : PySem.W.Frag} {mg : Str → Option Value} {T : List (Addr × Str)} {E : XK} {M H : Hp} {a : Expr} {ma mb : Env → Out D}
def rCntD (K : PySem.W.Frag) : V → List V → Hp → VK → Prop := fun x xs H Q => ∃ (a : Addr) (y : V) (d : PyData) (ds : List PyData), x = V.ref a ∧ xs = [y] ∧ Dp K H (V.ref a) (.list ds) ∧ Dp K H y d ∧
  SeqAt.shaped (.list ds) = true ∧ SeqAt.shaped d = true ∧ Q (.int ((ds.countP fun z => PyData.eqv z d : Nat) : Int)) H
theorem mt_countD (hu : X.A.units + 65 < cLine) : MtR X "list.count" (rCntD X.K) := by
  intro pins s σ H x xs v us Q I rx rxs h
  obtain ⟨a, y, d, ds, rfl, rfl, hl, hy, sl, sd, q⟩ := h
  cases rx
  cases rxs with
  | cons ry rt =>
    rename_i uy ut
    cases rt
    obtain ⟨bs, r1⟩ := Dp.reads I d y uy hy ry
    have hxs : PyData.canLayAll0 ds = true := SeqAt.canLay_of_shaped sl
    have hroom : X.A.units + 1 + min (PyData.depthAll ds) d.depth < cLine := room_in_shaped sd hu
    cases hl with
    | lst hs ha =>
      obtain ⟨its, rv, ⟨⟨cls, dd, data, sls⟩, n, ho, hc, hdn, hdt⟩, hlen⟩ := I.list hs
      simp only at hc hdt
      subst hc hdt
      obtain ⟨as, h4⟩ := Dp.readsAll I ds _ its ha rv
      have hmap : its.map (SeqAt.readOf s.heap) = ds := SeqAt.readsAll_map ds its as hxs h4
      refine call_meets PySem.F.slot_list_count ⟨_, ho, rfl⟩ PySem.F.entry_list_count (PySem.F.args_list_count_2 _ _)
        (SeqAt.list_countAt a its.toArray n dd sls uy (fun u => PyData.eqv (SeqAt.readOf s.heap u) d)) ⟨ho, SeqAt.items_eqAt (vs := its.toArray) (show ReadsAll s.heap its.toArray.toList ds as from h4) r1 hxs (SeqAt.canLay_of_shaped sd) hroom, ?_⟩
      have ec : its.toArray.toList.countP (fun u => PyData.eqv (SeqAt.readOf s.heap u) d) = ds.countP fun z => PyData.eqv z d := by
        rw [← hmap, List.countP_map]
        rfl
      refine ⟨.int ((ds.countP fun z => PyData.eqv z d : Nat) : Int), H, I.tok _, ⟨s.toks, ?_⟩, q⟩
      show Value.int ((its.toArray.toList.countP (fun u => PyData.eqv (SeqAt.readOf s.heap u) d) : Nat) : Int) s.toks = _
      rw [ec]
def dCount (zs : List D) (y : D) : Out D := if (gd 8 y && gd 8 (.lst zs)) = true then .ok (.int ((zs.countP fun z => eqv z y : Nat) : Int)) else .bad
theorem count_pyL (y : D) : ∀ zs : List D, ((D.pyL zs).countP fun z => PyData.eqv z y.py) = zs.countP fun z => eqv z y
  | [] => rfl
  | z :: zs => by
    have h := count_pyL y zs
    simp only [D.pyL, List.countP_cons, h]
    rfl
theorem e_count {k : Nat} {e : Expr} {apos cpos : Pos} (hr : Room k X.A) (ho : PEm X T E a ma) (he : PEm X T E e mb)
    (hbase : attributeBase a "count" X.env (eval a X.env) = eval a X.env := by rfl)
    (hfew : ((backTo cpos (starEach [e] X.env)).all (fun x => !x.1) && (backToKw cpos (keywordEach [] X.env)).all (fun x => x.1.isSome) && decide ([e].length + ([] : List Keyword).length + (if ([] : List Keyword).isEmpty then 0 else 1) < 30)) = true := by rfl)
    (hline : (apos.endLine == cpos.line) = true := by rfl) (hs : starEach [e] X.env = (false, eval e X.env) :: starEach [] X.env := by rfl) (hplain : (backTo cpos (starEach [] X.env)).any (·.1) = false := by rfl) :
    PEm X T E (.Call (.Attribute a "count" apos) [e] [] cpos) (mL dCount ma mb) :=
  weakE (pe_bm PySem.F.plainAttrs_list PySem.F.slot_list_count PySem.F.type_list_count (mt_countD (by have := hr.un; omega)) ho (pa_cons he pa_nil hs) hbase hfew hline hs hplain) fun σ H Q h => by
    obtain ⟨Γ, M, H0, r, f⟩ := h
    refine ⟨Γ, M, H0, r, Fin.bind f fun d v H1 M1 _ e1 r1 f1 => ?_⟩
    have rs := r.ext e1
    cases r1 with
    | @lst a vs zs ha ra =>
      refine ⟨.inl ⟨rfl, _, SqL.of (rs.ms _ _ ha)⟩, Γ, M1, H0, rs, Fin.bind f1 fun y w H2 M2 _ e2 r2 f2 => ?_⟩
      have rs2 := rs.ext e2
      unfold dCount at f2
      by_cases hf : (gd 8 y && gd 8 (.lst zs)) = true
      · rw [if_pos hf] at f2
        rw [Bool.and_eq_true] at hf
        have dl := Rp.dp (n := 8) rs2.ms (Rp.lst (mg := X.mg) (K := X.K) (e2.mm _ _ ha) (ra.mono e2.mm)) hf.2
        have sl := gd_shaped hf.2
        unfold D.py at dl sl
        refine ⟨a, w, y.py, D.pyL zs, rfl, rfl, dl, r2.dp rs2.ms hf.1, sl, gd_shaped hf.1, ?_⟩
        rw [count_pyL]
        exact f2 _ _ _ rs2.ext0 (.int _)
      · rw [if_neg hf] at f2
        exact f2.elim
    | _ => exact f1.elim
end FL
set_option Elab.async false
set_option linter.all false
set_option maxRecDepth 100000
set_option maxHeartbeats 4000000
/-! a slot that holds a dict of one's own; x.pop(); an own list compared; sorted of tuples -/
namespace FL
open PySem PySem.Spec PyProof.Rows L2 LamX
variable {X : Cx} {K : PySem.W.Frag} {mg : Str → Option Value} {T : List (Addr × Str)} {E : XK} {M M0 H H0 H1 : Hp} {Γ : Env} {σ : L2.St} {a b e : Expr} {ma mb : Env → Out D}
def getK (ks : List (L2.Key × D)) (k : L2.Key) : Option D := (ks.find? fun kv => decide (kv.1 = k)).map (·.2)
def setK (ks : List (L2.Key × D)) (k : L2.Key) (d : D) : List (L2.Key × D) :=
  if (ks.any fun kv => decide (kv.1 = k)) = true then ks.map (fun kv => if kv.1 = k then (kv.1, d) else kv) else ks ++ [(k, d)]
theorem getK_cons (p : L2.Key × D) (r : List (L2.Key × D)) (k : L2.Key) : getK (p :: r) k = if p.1 = k then some p.2 else getK r k := by
  unfold getK
  rw [List.find?_cons]
  by_cases h : p.1 = k
  · simp [h]
  · simp [h]
theorem RpK.val : ∀ {ws : List (L2.Key × V)} {ks : List (L2.Key × D)}, RpK K mg M ws ks → ∀ k, (getK ks k = none ∧ valV ws k = none) ∨ ∃ d v, getK ks k = some d ∧ valV ws k = some v ∧ Rp K mg M v d
  | _, _, .nil, k => .inl ⟨rfl, rfl⟩
  | _, _, @RpK.cons _ _ _ k' v d ws ks h r, k => by
    rw [getK_cons]
    by_cases e : k' = k
    · rw [if_pos e, valV_pos e]
      exact .inr ⟨d, v, rfl, rfl, h⟩
    · rw [if_neg e, valV_neg e]
      exact RpK.val r k
theorem RpK.any : ∀ {ws : List (L2.Key × V)} {ks : List (L2.Key × D)}, RpK K mg M ws ks → ∀ k, (ws.any fun kv => decide (kv.1 = k)) = ks.any fun kv => decide (kv.1 = k)
  | _, _, .nil, k => rfl
  | _, _, .cons h r, k => by rw [List.any_cons, List.any_cons, RpK.any r k]
theorem RpK.repl {v : V} {d : D} (h : Rp K mg M v d) (k : L2.Key) : ∀ {ws : List (L2.Key × V)} {ks : List (L2.Key × D)}, RpK K mg M ws ks → RpK K mg M (ws.map fun kv => if kv.1 = k then (kv.1, v) else kv) (ks.map fun kv => if kv.1 = k then (kv.1, d) else kv)
  | _, _, .nil => .nil
  | _, _, @RpK.cons _ _ _ k' v' d' ws ks h' r => by
    rw [List.map_cons, List.map_cons]
    by_cases e : k' = k
    · simp only [e, if_true]
      exact .cons h (RpK.repl h k r)
    · simp only [e, if_false]
      exact .cons h' (RpK.repl h k r)
theorem RpK.snoc {k : L2.Key} {v : V} {d : D} (h : Rp K mg M v d) : ∀ {ws : List (L2.Key × V)} {ks : List (L2.Key × D)}, RpK K mg M ws ks → RpK K mg M (ws ++ [(k, v)]) (ks ++ [(k, d)])
  | _, _, .nil => .cons h .nil
  | _, _, .cons h' r => .cons h' (RpK.snoc h r)
theorem RpK.put {k : L2.Key} {v : V} {d : D} {ws : List (L2.Key × V)} {ks : List (L2.Key × D)} (r : RpK K mg M ws ks) (h : Rp K mg M v d) : RpK K mg M (putK ws k v) (setK ks k d) := by
  unfold putK setK
  rw [r.any k]
  split
  · exact RpK.repl h k r
  · exact RpK.snoc h r
theorem RpK.length : ∀ {ws : List (L2.Key × V)} {ks : List (L2.Key × D)}, RpK K mg M ws ks → ws.length = ks.length
  | _, _, .nil => rfl
  | _, _, .cons _ r => by rw [List.length_cons, List.length_cons, RpK.length r]
def keyD : D → Option L2.Key
  | .int i => some (.inl i)
  | .str x => some (.inr x)
  | _ => none
theorem keyD_rp {v : V} {d : D} {k : L2.Key} (r : Rp K mg M v d) (h : keyD d = some k) : v = kV k := by
  cases r with
  | int i => cases h; rfl
  | str x => cases h; rfl
  | _ => cases h
def dctAt (Γ : Env) (i : Nat) : Option (List (L2.Key × D)) := match Γ[i]? with
  | some (some (.dct ks)) => some ks
  | _ => none
theorem dctAt_some {i : Nat} {ks : List (L2.Key × D)} (h : dctAt Γ i = some ks) : Γ[i]? = some (some (.dct ks)) := by
  unfold dctAt at h
  cases q : Γ[i]? with
  | none => rw [q] at h; cases h
  | some o =>
    rw [q] at h
    cases o with
    | none => cases h
    | some s =>
      cases s with
      | dat d => cases h
      | own ks => cases h
      | dct es => cases h; rfl
/-! ### the heap -/
theorem tabs_updD {p : Addr} {vs ws : List (L2.Key × V)} (h : Tabs T H) (ha : H p = some (.dK vs)) : Tabs T (upd H p (.dK ws)) := fun q hq => by
  obtain ⟨ps, h1, h2, h3⟩ := h q hq
  refine ⟨ps, ?_, h2, fun pos cv hc => ?_⟩
  · rw [upd_ne (ne_of h1 ha (fun z => by cases z))]
    exact h1
  · obtain ⟨c, e, hc⟩ := h3 pos cv hc
    refine ⟨c, e, ?_⟩
    rw [upd_ne (ne_of hc ha (fun z => by unfold CodeO at z; cases z))]
    exact hc
theorem Ext.mutD {p : Addr} {vs ws : List (L2.Key × V)} (e : Ext T M0 H0 M H) (hm : M p = none) (ha : H p = some (.dK vs)) (hf : Fr H0 p) : Ext T M0 H0 M (upd H p (.dK ws)) where
  kp := fun b o hb ho => by
    by_cases q : b = p
    · subst q
      obtain ⟨ps, z⟩ := hf o hb
      exact absurd z (ho ps)
    · rw [upd_ne q]
      exact e.kp b o hb ho
  tb := fun h => tabs_updD (e.tb h) ha
  mm := e.mm
  ms := fun b o hb => by
    have q : b ≠ p := fun z => by
      rw [z, hm] at hb
      cases hb
    rw [upd_ne q]
    exact e.ms b o hb
  nt := e.nt
  nw := e.nw
theorem Rs.mutD (r : Rs K mg T H0 M H Γ σ) {i : Nat} {p : Addr} {ks ls : List (L2.Key × D)} {vs ws : List (L2.Key × V)} (hi : Γ[i]? = some (some (.dct ks))) (hs : σ[i]? = some (some (.ref p))) (ha : H p = some (.dK vs)) (hm : M p = none) (hf : Fr H0 p) (hw : RpK K mg M ws ls) :
    Rs K mg T H0 M (upd H p (.dK ws)) (Γ.set i (some (.dct ls))) σ where
  ms := fun b o hb => by
    have q : b ≠ p := fun z => by
      rw [z, hm] at hb
      cases hb
    rw [upd_ne q]
    exact r.ms b o hb
  nt := r.nt
  tb := tabs_updD r.tb ha
  len := by rw [List.length_set, r.len]
  dat := fun j e q => by
    rcases set_get q with ⟨_, _, z⟩ | ⟨hj, q⟩
    · cases z
    · exact r.dat j e q
  own := fun j e q => by
    rcases set_get q with ⟨_, _, z⟩ | ⟨hj, q⟩
    · cases z
    · obtain ⟨b, us, q1, q2, q3, q4, q5⟩ := r.own j e q
      refine ⟨b, us, q1, ?_, q3, q4, q5⟩
      rw [upd_ne (ne_of q2 ha (fun z => by cases z))]
      exact q2
  inj := fun j k ds' es' b q1 q2 q3 q4 => by
    rcases set_get q1 with ⟨_, _, z⟩ | ⟨_, q1⟩
    · cases z
    rcases set_get q2 with ⟨_, _, z⟩ | ⟨_, q2⟩
    · cases z
    exact r.inj j k ds' es' b q1 q2 q3 q4
  dct := fun j e q => by
    rcases set_get q with ⟨hj, _, z⟩ | ⟨hj, q⟩
    · subst hj
      cases z
      exact ⟨p, ws, hs, upd_same, hm, hf, hw⟩
    · obtain ⟨b, us, q1, q2, q3, q4, q5⟩ := r.dct j e q
      refine ⟨b, us, q1, ?_, q3, q4, q5⟩
      rw [upd_ne (fun z => ?_)]
      · exact q2
      · subst z
        exact hj (r.djn i j ks e _ hi q hs q1)
  djn := fun j k ks' ls' b q1 q2 q3 q4 => by
    have ow : ∀ (j : Nat) ds', (Γ.set i (some (.dct ls)))[j]? = some (some (.dct ds')) → ∃ ds'', Γ[j]? = some (some (.dct ds'')) := fun j ds' q => by
      rcases set_get q with ⟨hj, _, z⟩ | ⟨hj, q⟩
      · subst hj
        exact ⟨ks, hi⟩
      · exact ⟨ds', q⟩
    obtain ⟨d1, e1⟩ := ow j ks' q1
    obtain ⟨d2, e2⟩ := ow k ls' q2
    exact r.djn j k d1 d2 b e1 e2 q3 q4
theorem Rs.newDct (r : Rs K mg T H0 M H Γ σ) (e : Ext T M0 H0 M H) (i : Nat) {p : Addr} (hp : H p = none) :
    Ext T M0 H0 M (upd H p (.dK [])) ∧ Rs K mg T H0 M (upd H p (.dK [])) (Γ.set i (some (.dct []))) (σ.set i (some (.ref p))) := by
  have g : Ext T M H M (upd H p (.dK [])) := Ext.grow r.ms r.nt (same_upd hp)
  have fr : Fr H0 p := fun u hu => by
    by_cases ht : ∃ ps, u = .tbl ps
    · exact ht
    · have z := e.kp p u hu (fun ps z => ht ⟨ps, z⟩)
      rw [hp] at z
      cases z
  have mp : M p = none := by
    cases q : M p with
    | none => rfl
    | some u =>
      have z := r.ms p u q
      rw [hp] at z
      cases z
  have r2 := r.ext g
  refine ⟨e.trans g, ⟨r2.ms, r2.nt, r2.tb, by rw [List.length_set, List.length_set, r.len], fun j d q => ?_, fun j es q => ?_, fun j k ds' es' b q1 q2 q3 q4 => ?_, fun j ks q => ?_, fun j k ks ls b q1 q2 q3 q4 => ?_⟩⟩
  · rcases set_get q with ⟨_, _, z⟩ | ⟨hj, q⟩
    · cases z
    · rw [List.getElem?_set_ne hj]
      exact r2.dat j d q
  · rcases set_get q with ⟨_, _, z⟩ | ⟨hj, q⟩
    · cases z
    · rw [List.getElem?_set_ne hj]
      exact r2.own j es q
  · rcases set_get q1 with ⟨_, _, z⟩ | ⟨hj, q1⟩
    · cases z
    rcases set_get q2 with ⟨_, _, z⟩ | ⟨hk, q2⟩
    · cases z
    rw [List.getElem?_set_ne hj] at q3
    rw [List.getElem?_set_ne hk] at q4
    exact r.inj j k ds' es' b q1 q2 q3 q4
  · rcases set_get q with ⟨hj, hi, z⟩ | ⟨hj, q⟩
    · subst hj
      cases z
      exact ⟨p, [], List.getElem?_set_self (by rw [← r.len]; exact hi), upd_same, mp, fr, .nil⟩
    · rw [List.getElem?_set_ne hj]
      exact r2.dct j ks q
  · have np : ∀ (j : Nat) ds', Γ[j]? = some (some (.dct ds')) → σ[j]? = some (some (.ref p)) → False := fun j ds' q z => by
      obtain ⟨a, us, h1, h2, _⟩ := r.dct j ds' q
      rw [z] at h1
      cases h1
      rw [hp] at h2
      cases h2
    rcases set_get q1 with ⟨a1, a2, _⟩ | ⟨a1, a2⟩
    · subst a1
      rw [List.getElem?_set_self (by rw [← r.len]; exact a2)] at q3
      cases q3
      rcases set_get q2 with ⟨b1, b2, _⟩ | ⟨b1, b2⟩
      · exact b1
      · rw [List.getElem?_set_ne b1] at q4
        exact (np k ls b2 q4).elim
    · rw [List.getElem?_set_ne a1] at q3
      rcases set_get q2 with ⟨b1, b2, _⟩ | ⟨b1, b2⟩
      · subst b1
        rw [List.getElem?_set_self (by rw [← r.len]; exact b2)] at q4
        cases q4
        exact (np j ks a2 q3).elim
      · rw [List.getElem?_set_ne b1] at q4
        exact r.djn j k ks ls b a2 b2 q3 q4
/-! ### rules -/
theorem Fin.imp {Q Q' : VK} (k : ∀ v H', Q v H' → Q' v H') {o : Out D} (h : Fin K mg T M H Q E o) : Fin K mg T M H Q' E o := by
  cases o with
  | ok d => exact fun v H' M' e r => k v H' (h v H' M' e r)
  | exc c => exact h
  | bad => exact h
def sDct (i : Nat) : Env → SO := fun Γ => .nx (Γ.set i (some (.dct [])))
theorem s_dct (i : Nat) {x : Str} {pos pos' dpos : Pos} (hN : X.N.Nodup) (hi : X.N[i]? = some x := by rfl) (hx : Loc X.env.scope x := by first | exact Or.inl rfl | exact Or.inr rfl) (hs : swapsWith (.Dict [] [] dpos) (some (.Name x pos')) pos.line X.env = pure false := by rfl)
    (hf : X.fn x = true ∨ X.env.scope.names.lookup x = some .local := by first | exact .inl rfl | exact .inr rfl) : PSm X T E (.Assign [.Name x pos'] (.Dict [] [] dpos) pos) (sDct i) :=
  weakS (ps_set hN hi hx pe_dnewK hs hf) fun Dn σ H h => by
    obtain ⟨Γ, M, M0, H0, e, r, f⟩ := h
    intro p hp
    obtain ⟨q1, q2⟩ := r.newDct e i hp
    exact f _ _ _ q1 q2
def mDct (i : Nat) (m : Env → Out D) (f : List (L2.Key × D) → L2.Key → Out D) : Env → Out D := fun Γ => match dctAt Γ i with
  | none => .bad
  | some ks => (m Γ).bind fun y => match keyD y with
    | none => .bad
    | some k => f ks k
def fGet (ks : List (L2.Key × D)) (k : L2.Key) : Out D := match getK ks k with
  | some d => .ok d
  | none => .bad
def fIn (ks : List (L2.Key × D)) (k : L2.Key) : Out D := .ok (.bl (getK ks k).isSome)
def fNotIn (ks : List (L2.Key × D)) (k : L2.Key) : Out D := .ok (.bl (!(getK ks k).isSome))
/-- what is told of a dict's slot -/
theorem dct_run {i : Nat} {m : Env → Out D} {f : List (L2.Key × D) → L2.Key → Out D} {Q : VK} (h : tOf K mg T E (mDct i m f) σ H Q) :
    ∃ p, σ[i]? = some (some (.ref p)) ∧ tOf K mg T E m σ H fun y H2 => ∃ ks ws k, y = kV k ∧ H2 p = some (.dK ws) ∧ ∃ M2, Same M2 H2 ∧ (∀ a ps, M2 a ≠ some (.tbl ps)) ∧ RpK K mg M2 ws ks ∧ Fin K mg T M2 H2 Q E (f ks k) := by
  obtain ⟨Γ, M, H0, r, fn⟩ := h
  unfold mDct at fn
  cases q : dctAt Γ i with
  | none =>
    rw [q] at fn
    exact fn.elim
  | some ks =>
    rw [q] at fn
    have hq := dctAt_some q
    obtain ⟨p, ws, h1, h2, h3, h4, h5⟩ := r.dct i ks hq
    refine ⟨p, h1, Γ, M, H0, r, Fin.bind fn fun d v H1 M1 _ e1 r1 f1 => ?_⟩
    have r2 := r.ext e1
    obtain ⟨p', ws', k1, k2, k3, k4, k5⟩ := r2.dct i ks hq
    rw [h1] at k1
    cases k1
    cases hk : keyD d with
    | none =>
      rw [hk] at f1
      exact f1.elim
    | some k =>
      rw [hk] at f1
      exact ⟨ks, ws', k, keyD_rp r1 hk, k2, M1, r2.ms, r2.nt, k5, f1⟩
section
variable {x : Str} {pos pos' : Pos} {m : Env → Out D}
theorem tdget_of {i : Nat} {Q : VK} (h : tOf K mg T E (mDct i m fGet) σ H Q) : tDGet (tVar i) (tOf K mg T E m) σ H Q := by
  obtain ⟨p, hp, t⟩ := dct_run h
  refine ⟨.ref p, hp, ?_⟩
  obtain ⟨Γ, M, H0, r, fn⟩ := t
  refine ⟨Γ, M, H0, r, ?_⟩
  refine Fin.imp (fun y H2 hy => ?_) fn
  obtain ⟨ks, ws, k, rfl, e1, M2, ms, nt, rk, f2⟩ := hy
  rcases rk.val k with ⟨z1, z2⟩ | ⟨d, v, z1, z2, rv⟩
  · unfold fGet at f2
    rw [z1] at f2
    exact f2.elim
  · unfold fGet at f2
    rw [z1] at f2
    refine ⟨p, v, rfl, ?_, f2 _ _ _ (Ext.refl ms nt) rv⟩
    have := DGet.k (k := k) e1
    rw [z2] at this
    exact this
theorem e_dget {k : Nat} (i : Nat) (hr : Room k X.A) (hb : PEm X T E b m) (hs : NoSl b) (hN : X.N[i]? = some x := by rfl) (hv : Vis X.env.scope x := by first | exact Or.inl rfl | exact Or.inr (Or.inl rfl) | exact Or.inr (Or.inr rfl)) (hd : (x == ("__debug__" : Str)) = false := by decide)
    (hcd : (x == ("__classdict__" : Str)) = false := by decide) : PEm X T E (.Subscript (.Name x pos') b pos) (mDct i m fGet) :=
  weakE (pe_dget (by have := hr.un; omega) (pe_var hN hv hd hcd) hb hs) fun σ H Q h => tdget_of h
theorem tdin_of {i : Nat} {Q : VK} (h : tOf K mg T E (mDct i m fIn) σ H Q) : tDIn (tOf K mg T E m) (tVar i) σ H Q := by
  obtain ⟨p, hp, t⟩ := dct_run h
  obtain ⟨Γ, M, H0, r, fn⟩ := t
  refine ⟨Γ, M, H0, r, ?_⟩
  refine Fin.imp (fun y H2 hy => ?_) fn
  obtain ⟨ks, ws, k, rfl, e1, M2, ms, nt, rk, f2⟩ := hy
  refine ⟨.ref p, hp, p, valV ws k, rfl, DGet.k e1, ?_⟩
  have e : (valV ws k).isSome = (getK ks k).isSome := by
    rcases rk.val k with ⟨z1, z2⟩ | ⟨d, v, z1, z2, rv⟩ <;> rw [z1, z2] <;> rfl
  rw [e]
  exact f2 _ _ _ (Ext.refl ms nt) (.bl _)
theorem tdnotin_of {i : Nat} {Q : VK} (h : tOf K mg T E (mDct i m fNotIn) σ H Q) : tDNotIn (tOf K mg T E m) (tVar i) σ H Q := by
  obtain ⟨p, hp, t⟩ := dct_run h
  obtain ⟨Γ, M, H0, r, fn⟩ := t
  refine ⟨Γ, M, H0, r, ?_⟩
  refine Fin.imp (fun y H2 hy => ?_) fn
  obtain ⟨ks, ws, k, rfl, e1, M2, ms, nt, rk, f2⟩ := hy
  refine ⟨.ref p, hp, p, valV ws k, rfl, DGet.k e1, ?_⟩
  have e : (valV ws k).isSome = (getK ks k).isSome := by
    rcases rk.val k with ⟨z1, z2⟩ | ⟨d, v, z1, z2, rv⟩ <;> rw [z1, z2] <;> rfl
  rw [e]
  exact f2 _ _ _ (Ext.refl ms nt) (.bl _)
theorem e_din {k : Nat} (i : Nat) (hr : Room k X.A) (hb : PEm X T E b m) (hN : X.N[i]? = some x := by rfl) (hv : Vis X.env.scope x := by first | exact Or.inl rfl | exact Or.inr (Or.inl rfl) | exact Or.inr (Or.inr rfl)) (hd : (x == ("__debug__" : Str)) = false := by decide)
    (hcd : (x == ("__classdict__" : Str)) = false := by decide) (hm : behindInMarks .In (.Name x pos') = false := by rfl) : PEm X T E (.Compare b [.In] [.Name x pos'] pos) (mDct i m fIn) :=
  weakE (pe_cmp (pc_din (by have := hr.un; omega) hb (pe_var hN hv hd hcd)) hm) fun σ H Q h => tdin_of h
theorem t_din {k : Nat} (i : Nat) (hr : Room k X.A) (hb : PEm X T E b m) (hN : X.N[i]? = some x := by rfl) (hv : Vis X.env.scope x := by first | exact Or.inl rfl | exact Or.inr (Or.inl rfl) | exact Or.inr (Or.inr rfl)) (hd : (x == ("__debug__" : Str)) = false := by decide)
    (hcd : (x == ("__classdict__" : Str)) = false := by decide) (hm : behindInMarks .In (.Name x pos') = false := by rfl) : PTm X T E (.Compare b [.In] [.Name x pos'] pos) (mT (mDct i m fIn)) :=
  weakT (pt_cmp (pc_din (by have := hr.un; omega) hb (pe_var hN hv hd hcd)) hm) fun σ H Q h => tdin_of (tB_of h)
theorem t_dnotin {k : Nat} (i : Nat) (hr : Room k X.A) (hb : PEm X T E b m) (hN : X.N[i]? = some x := by rfl) (hv : Vis X.env.scope x := by first | exact Or.inl rfl | exact Or.inr (Or.inl rfl) | exact Or.inr (Or.inr rfl)) (hd : (x == ("__debug__" : Str)) = false := by decide)
    (hcd : (x == ("__classdict__" : Str)) = false := by decide) (hm : behindInMarks .NotIn (.Name x pos') = false := by rfl) : PTm X T E (.Compare b [.NotIn] [.Name x pos'] pos) (mT (mDct i m fNotIn)) :=
  weakT (pt_cmp (pc_dnotin (by have := hr.un; omega) hb (pe_var hN hv hd hcd)) hm) fun σ H Q h => tdnotin_of (tB_of h)
/-- x[b] = e -/
def sDSet (i : Nat) (mk mv : Env → Out D) : Env → SO := fun Γ => match dctAt Γ i with
  | none => .bad
  | some ks => SO.ofO (mv Γ) fun d => SO.ofO (mk Γ) fun y => match keyD y with
    | none => .bad
    | some k => if ks.length < LIM then .nx (Γ.set i (some (.dct (setK ks k d)))) else .bad
theorem s_dset {k : Nat} {mk mv : Env → Out D} {tpos : Pos} (i : Nat) (hr : Room k X.A) (hb : PEm X T E b mk) (he : PEm X T E e mv) (hN : X.N[i]? = some x := by rfl) (hv : Vis X.env.scope x := by first | exact Or.inl rfl | exact Or.inr (Or.inl rfl) | exact Or.inr (Or.inr rfl)) (hd : (x == ("__debug__" : Str)) = false := by decide)
    (hcd : (x == ("__classdict__" : Str)) = false := by decide) (hs : swapsWith e (some (.Subscript (.Name x pos') b tpos)) pos.line X.env = pure false := by rfl) : PSm X T E (.Assign [.Subscript (.Name x pos') b tpos] e pos) (sDSet i mk mv) :=
  weakS (ps_dput (by have := hr.un; omega) (pe_var hN hv hd hcd) hb he hs) fun Dn σ H h => by
    obtain ⟨Γ, M, M0, H0, e, r, f⟩ := h
    unfold sDSet at f
    cases q : dctAt Γ i with
    | none =>
      rw [q] at f
      exact f.elim
    | some ks =>
      rw [q] at f
      have hq := dctAt_some q
      refine ⟨Γ, M, H0, r, FinS.ofO e f fun d v H1 M1 e1 e2 r1 f1 => ?_⟩
      have ra := r.ext e2
      obtain ⟨p, ws, h1, h2, h3, h4, h5⟩ := ra.dct i ks hq
      refine ⟨.ref p, h1, Γ, M1, H0, ra, FinS.ofO e1 f1 fun y u H2 M2 e3 e4 r3 f2 => ?_⟩
      have rb := ra.ext e4
      obtain ⟨p', ws', k1, k2, k3, k4, k5⟩ := rb.dct i ks hq
      rw [h1] at k1
      cases k1
      cases hk : keyD y with
      | none =>
        rw [hk] at f2
        exact f2.elim
      | some k =>
        rw [hk] at f2
        by_cases hl : ks.length < LIM
        · have f2 : FinS _ _ _ _ _ _ _ (if ks.length < LIM then SO.nx (Γ.set i (some (.dct (setK ks k d)))) else .bad) := f2
          rw [if_pos hl] at f2
          rw [keyD_rp r3 hk]
          refine ⟨p, _, rfl, DPut.k k2 (by rw [k5.length, sizeLine_eq]; exact hl), f2 _ _ _ (e3.mutD k3 k2 k4) (rb.mutD hq h1 k2 k3 k4 (k5.put (r1.mono e4.mm)))⟩
        · have f2 : FinS _ _ _ _ _ _ _ (if ks.length < LIM then SO.nx (Γ.set i (some (.dct (setK ks k d)))) else .bad) := f2
          rw [if_neg hl] at f2
          exact f2.elim
/-- y = x.pop() -/
def sPop (j i : Nat) : Env → SO := fun Γ => match ownAt Γ i with
  | none => .bad
  | some ds => match ds[ds.length - 1]? with
    | none => .bad
    | some d => .nx ((Γ.set i (some (.own ds.dropLast))).set j (some (.dat d)))
theorem RpL.dropLast : ∀ {vs : List V} {ds : List D}, RpL K mg M vs ds → RpL K mg M vs.dropLast ds.dropLast
  | _, _, .nil => .nil
  | _, _, .cons h .nil => .nil
  | _, _, .cons h (.cons h2 r) => .cons h (RpL.dropLast (.cons h2 r))
theorem s_pop {y : Str} {apos cpos ypos : Pos} (j i : Nat) (nd : X.N.Nodup) (hj : X.N[j]? = some y := by rfl) (hjx : Loc X.env.scope y := by first | exact Or.inl rfl | exact Or.inr rfl) (hN : X.N[i]? = some x := by rfl) (hv : Vis X.env.scope x := by first | exact Or.inl rfl | exact Or.inr (Or.inl rfl) | exact Or.inr (Or.inr rfl)) (hd : (x == ("__debug__" : Str)) = false := by decide)
    (hcd : (x == ("__classdict__" : Str)) = false := by decide) (hbase : attributeBase (.Name x pos') "pop" X.env (eval (.Name x pos') X.env) = eval (.Name x pos') X.env := by rfl) (hline : (apos.endLine == cpos.line) = true := by rfl)
    (hs : swapsWith (.Call (.Attribute (.Name x pos') "pop" apos) [] [] cpos) (some (.Name y ypos)) pos.line X.env = pure false := by rfl) (hf : X.fn y = true ∨ X.env.scope.names.lookup y = some .local := by first | exact .inl rfl | exact .inr rfl) :
    PSm X T E (.Assign [.Name y ypos] (.Call (.Attribute (.Name x pos') "pop" apos) [] [] cpos) pos) (sPop j i) :=
  weakS (ps_set nd hj hjx (pe_bm0 PySem.F.plainAttrs_list PySem.F.slot_list_pop PySem.F.type_list_pop mt_pop (pe_var hN hv hd hcd) hbase hline) hs hf) fun Dn σ H h => by
    obtain ⟨Γ, M, M0, H0, e, r, f⟩ := h
    unfold sPop at f
    cases q : ownAt Γ i with
    | none =>
      rw [q] at f
      exact f.elim
    | some ds =>
      rw [q] at f
      have hq := ownAt_some q
      obtain ⟨a, vs, h1, h2, h3, h4, h5⟩ := r.own i ds hq
      dsimp only at f
      cases hl : ds[ds.length - 1]? with
      | none =>
        rw [hl] at f
        exact f.elim
      | some d =>
        rw [hl] at f
        obtain ⟨v, k1, k2⟩ := h5.get hl
        refine ⟨.ref a, h1, .inl ⟨rfl, vs, SqL.of h2⟩, a, vs, v, rfl, rfl, h2, by rw [h5.length]; exact k1, ?_⟩
        have r2 := r.mut hq h1 h2 h3 h4 h5.dropLast
        exact f _ _ _ (e.mut h3 h2 h4) (r2.set j k2)
/-- an own list compared with data -/
def mONe (i : Nat) (m : Env → Out D) : Env → Out D := fun Γ => match ownAt Γ i with
  | some ds => (m Γ).bind (dNe (.lst ds))
  | none => .bad
theorem tone_of {i : Nat} {Q : VK} (h : tOf K mg T E (mONe i m) σ H Q) : tOp (rNeD K) (tVar i) (tOf K mg T E m) σ H Q := by
  obtain ⟨Γ, M, H0, r, f⟩ := h
  unfold mONe at f
  cases q : ownAt Γ i with
  | none =>
    rw [q] at f
    exact f.elim
  | some ds =>
    rw [q] at f
    have hq := ownAt_some q
    obtain ⟨a, vs, h1, h2, h3, h4, h5⟩ := r.own i ds hq
    refine ⟨.ref a, h1, Γ, M, H0, r, Fin.bind f fun d v H1 M1 _ e1 r1 f1 => ?_⟩
    have rs := r.ext e1
    obtain ⟨a', vs', k1, k2, k3, k4, k5⟩ := rs.own i ds hq
    rw [h1] at k1
    cases k1
    have mm : Same M1 (upd M1 a (.lst vs')) := same_upd k3
    have ms : Same (upd M1 a (.lst vs')) H1 := fun b o hb => by
      by_cases q : b = a
      · subst q
        rw [upd_same] at hb
        rw [← hb]
        exact k2
      · rw [upd_ne q] at hb
        exact rs.ms b o hb
    cases hz : dNe (.lst ds) d with
    | bad =>
      rw [hz] at f1
      exact f1.elim
    | exc c => exact absurd hz (nx_ne _ _ c)
    | ok z =>
      rw [hz] at f1
      obtain ⟨g1, g2, rfl⟩ := dNe_ok hz
      exact ⟨_, _, Rp.dp (n := 8) ms (Rp.lst (mg := mg) (K := K) upd_same (k5.mono mm)) g1, r1.dp rs.ms g2, gd_shaped g1, gd_shaped g2, f1 _ _ _ rs.ext0 (.bl _)⟩
theorem t_one {k : Nat} (i : Nat) (hr : Room k X.A) (hb : PEm X T E b m) (hN : X.N[i]? = some x := by rfl) (hv : Vis X.env.scope x := by first | exact Or.inl rfl | exact Or.inr (Or.inl rfl) | exact Or.inr (Or.inr rfl)) (hd : (x == ("__debug__" : Str)) = false := by decide)
    (hcd : (x == ("__classdict__" : Str)) = false := by decide) (hm : behindInMarks .NotEq b = false := by rfl) : PTm X T E (.Compare (.Name x pos') [.NotEq] [b] pos) (mT (mONe i m)) :=
  weakT (pt_cmpR (op_neD hr.units) (pe_var hN hv hd hcd) hb hm) fun σ H Q h => tone_of (tB_of h)
end
end FL
set_option Elab.async false
set_option linter.all false
set_option maxRecDepth 100000
set_option maxHeartbeats 4000000
/-! sorted of a list of tuples of whole numbers, all of one length -/
namespace FL
open PySem PySem.Spec PyProof.Rows L2 LamX
variable {X : Cx} {K : PySem.W.Frag} {mg : Str → Option Value} {T : List (Addr × Str)} {E : XK} {M M0 H H0 H1 : Hp}
def CB : Int := 1099511627776
def toWs : List D → Option (List (List Int))
  | [] => some []
  | .tup xs :: r => match toInts xs, toWs r with
    | some w, some ws => some (w :: ws)
    | _, _ => none
  | _ => none
def srtW (ws : List (List Int)) : List (List Int) := ws.mergeSort (fun a b => decide (TS.code CB a ≤ TS.code CB b))
theorem srtW_perm (ws : List (List Int)) : (srtW ws).Perm ws := List.mergeSort_perm _ _
theorem pw_by {α : Type} (f : α → Int) (ws : List α) : (ws.mergeSort (fun a b => decide (f a ≤ f b))).Pairwise (fun a b => f a ≤ f b) := by
  have := List.pairwise_mergeSort (le := fun a b : α => decide (f a ≤ f b)) (by intro a b c; simp; omega) (by intro a b; simp; omega) ws
  exact this.imp fun h => of_decide_eq_true h
theorem srtW_sorted (ws : List (List Int)) : (srtW ws).Pairwise (fun a b => TS.code CB a ≤ TS.code CB b) := pw_by (TS.code CB) ws
def okWs (d : Nat) (ws : List (List Int)) : Bool := decide (1 ≤ d) && ws.all fun v => decide (v.length = d) && v.all fun x => decide (0 ≤ x) && decide (x < CB)
def sortWL (ds : List D) : Out D := if ds.length ≤ 1 then .ok (.lst ds) else match toWs ds with
    | some ws => if (decide (ws.length < 64) && okWs (ws.getD 0 []).length ws) = true then .ok (.lst ((srtW ws).map fun w => .tup (w.map D.int))) else .bad
    | none => .bad
def dSortW : D → Out D
  | .lst ds => sortWL ds
  | _ => .bad
theorem nx_sortW : noX1 dSortW := fun d c h => by
  cases d with
  | lst ds =>
    have h : sortWL ds = .exc c := h
    unfold sortWL at h
    by_cases h1 : ds.length ≤ 1
    · rw [if_pos h1] at h
      exact nomatch h
    · rw [if_neg h1] at h
      cases h2 : toWs ds with
      | none => rw [h2] at h; exact nomatch h
      | some ws =>
        rw [h2] at h
        dsimp only at h
        by_cases h3 : (decide (ws.length < 64) && okWs (ws.getD 0 []).length ws) = true
        · rw [if_pos h3] at h
          exact nomatch h
        · rw [if_neg h3] at h
          exact nomatch h
  | _ => exact nomatch h
theorem code_inj {B : Int} : ∀ {a b : List Int}, a.length = b.length → TS.Bd B a → TS.Bd B b → TS.code B a = TS.code B b → a = b
  | [], [], _, _, _, _ => rfl
  | x :: a, y :: b, hl, ha, hb, h => by
    have hl2 : a.length = b.length := by simpa using hl
    have hxy : x = y := by
      rcases Int.lt_trichotomy x y with e | e | e
      · have h2 := TS.code_lt hl2 ha.tail hb.tail e
        rw [h] at h2
        exact absurd h2 (Int.lt_irrefl _)
      · exact e
      · have h2 := TS.code_lt hl2.symm hb.tail ha.tail e
        rw [h] at h2
        exact absurd h2 (Int.lt_irrefl _)
    subst hxy
    have h1 : TS.code B a = TS.code B b := by
      rcases Int.lt_trichotomy (TS.code B a) (TS.code B b) with e | e | e
      · have h2 := (TS.code_same (d := x) hl2).mpr e
        rw [h] at h2
        exact absurd h2 (Int.lt_irrefl _)
      · exact e
      · have h2 := (TS.code_same (d := x) hl2.symm).mpr e
        rw [h] at h2
        exact absurd h2 (Int.lt_irrefl _)
    rw [code_inj hl2 ha.tail hb.tail h1]
section
variable (K : PySem.W.Frag) (M : Hp)
inductive WR : List V → List (List Int) → Prop
  | nil : WR [] []
  | cons {t : Addr} {w : List Int} {vs : List V} {ws : List (List Int)} : SqT K M t (w.map V.int) → WR vs ws → WR (.ref t :: vs) (w :: ws)
end
theorem toWs_rp : ∀ {vs : List V} {ds : List D} {ws : List (List Int)}, RpL K mg M vs ds → toWs ds = some ws → WR K M vs ws
  | _, _, _, .nil, h => by cases h; exact .nil
  | _, _, ws, .cons (v := v) (d := d) (vs := vs) (ds := ds) h r, e => by
    cases h with
    | tup ha ra =>
      rename_i a us xs
      unfold toWs at e
      cases h1 : toInts xs with
      | none => rw [h1] at e; cases e
      | some w =>
        cases h2 : toWs ds with
        | none => rw [h1, h2] at e; cases e
        | some ws' =>
          rw [h1, h2] at e
          cases e
          rw [toInts_rp ra h1] at ha
          exact .cons ha (toWs_rp r h2)
    | _ => cases e
theorem WR.perm {vs ys : List V} (p : ys.Perm vs) : ∀ {ws : List (List Int)}, WR K M vs ws → ∃ us, WR K M ys us ∧ us.Perm ws := by
  induction p with
  | nil => exact fun h => ⟨_, h, List.Perm.refl _⟩
  | cons x _ ih =>
    intro ws h
    cases h with
    | cons h r =>
      obtain ⟨us, h1, h2⟩ := ih r
      exact ⟨_, .cons h h1, h2.cons _⟩
  | swap x y l =>
    intro ws h
    cases h with
    | cons h r =>
      cases r with
      | cons h2 r => exact ⟨_, .cons h2 (.cons h r), List.Perm.swap _ _ _⟩
  | trans _ _ ih1 ih2 =>
    intro ws h
    obtain ⟨us, h1, h2⟩ := ih2 h
    obtain ⟨us', h3, h4⟩ := ih1 h1
    exact ⟨us', h3, h4.trans h2⟩
theorem WR.mem : ∀ {vs : List V} {ws : List (List Int)}, WR K M vs ws → ∀ x ∈ vs, ∃ t w, x = .ref t ∧ SqT K M t (w.map V.int) ∧ w ∈ ws
  | _, _, .nil, x, hx => by cases hx
  | _, _, .cons h r, x, hx => by
    rcases List.mem_cons.mp hx with e | hx
    · exact ⟨_, _, e, h, List.mem_cons_self⟩
    · obtain ⟨t, w, h1, h2, h3⟩ := WR.mem r x hx
      exact ⟨t, w, h1, h2, List.mem_cons_of_mem _ h3⟩
theorem WR.memW : ∀ {vs : List V} {ws : List (List Int)}, WR K M vs ws → ∀ w ∈ ws, ∃ t, V.ref t ∈ vs ∧ SqT K M t (w.map V.int)
  | _, _, .nil, x, hx => by cases hx
  | _, _, .cons h r, x, hx => by
    rcases List.mem_cons.mp hx with e | hx
    · subst e
      exact ⟨_, List.mem_cons_self, h⟩
    · obtain ⟨t, h1, h2⟩ := WR.memW r x hx
      exact ⟨t, List.mem_cons_of_mem _ h1, h2⟩
theorem WR.pw {R : V → V → Prop} {S : List Int → List Int → Prop} (hRS : ∀ t u a b, SqT K M t (a.map V.int) → SqT K M u (b.map V.int) → R (.ref t) (.ref u) → S a b) : ∀ {vs : List V} {ws : List (List Int)}, WR K M vs ws → vs.Pairwise R → ws.Pairwise S
  | _, _, .nil, _ => .nil
  | _, _, .cons h r, p => by
    rw [List.pairwise_cons] at p
    refine List.pairwise_cons.mpr ⟨fun b hb => ?_, WR.pw hRS r p.2⟩
    obtain ⟨t, h1, h2⟩ := r.memW b hb
    exact hRS _ _ _ _ h h2 (p.1 _ h1)
theorem WR.rpL : ∀ {vs : List V} {ws : List (List Int)}, WR K M vs ws → RpL K mg M vs (ws.map fun w => .tup (w.map D.int))
  | _, _, .nil => .nil
  | _, _, .cons h r => .cons (.tup h (rpL_ints _)) (WR.rpL r)
theorem WR.length : ∀ {vs : List V} {ws : List (List Int)}, WR K M vs ws → vs.length = ws.length
  | _, _, .nil => rfl
  | _, _, .cons h r => by rw [List.length_cons, List.length_cons, WR.length r]
theorem rev_ix {h : V} {vs : List V} : (h :: vs).length ≤ 1 → vs = [] := fun z => by
  cases vs with
  | nil => rfl
  | cons a b => simp at z
theorem perm_short {α : Type} : ∀ {l m : List α}, m.Perm l → l.length ≤ 1 → m = l
  | [], m, h, _ => h.eq_nil
  | [x], m, h, _ => List.perm_singleton.mp h
  | x :: y :: l, m, h, hl => by simp at hl
/-- sorted of a list of one thing or none -/
def rSort1 (K : PySem.W.Frag) : List V → Hp → VK → Prop := fun vs H Q => ∃ a xs, vs = [V.ref a] ∧ SqL K H a xs ∧ xs.length ≤ 1 ∧ ∀ p, H p = none → Q (.ref p) (upd H p (.lst xs))
theorem cr_sort1 : CallR X (.builtin "sorted") (rSort1 X.K) := by
  intro pins s σ H vs us Q I r h
  obtain ⟨a, xs, rfl, hs, hx, q⟩ := h
  obtain ⟨its, rv, hl, hz⟩ := I.list hs
  obtain ⟨u, rfl, ru⟩ := vals1 r
  obtain rfl : u = Value.ref a := ru
  have hi : its.length ≤ 1 := by rw [← rv.length]; exact hx
  refine Srt.sorted_any hl.isList (by rw [sizeLine_eq]; omega) (fun h2 => absurd h2 (by omega)) fun out ho => ?_
  have eo : out = its := perm_short ho hi
  subst eo
  obtain ⟨ep, he'⟩ := PyProof.Rows.sortedAll_at s.heap out out.toArray
  exact ⟨.ref _, upd H (s.heap.objs.size + 1) (.lst xs), I.laid (t' := s.toks) (fun _ _ => PyProof.Rows.sortedAll_old) (Nat.le_succ _) ⟨hz, out, ep, rv, he'⟩, rfl, q _ (I.hok.fresh (Nat.le_succ _))⟩
def rSortW (K : PySem.W.Frag) : List V → Hp → VK → Prop := fun vs H Q => rSort1 K vs H Q ∨ ∃ d : Nat, 1 ≤ d ∧ rSortU K d CB vs H Q
theorem cr_sortW : CallR X (.builtin "sorted") (rSortW X.K) := by
  intro pins s σ H vs us Q I r h
  rcases h with h | ⟨d, hd, h⟩
  · exact cr_sort1 pins s σ H vs us Q I r h
  · exact cr_sortT hd pins s σ H vs us Q I r h
theorem sqT_inj {t : Addr} {a b : List Int} (h1 : SqT K M t (a.map V.int)) (h2 : SqT K M t (b.map V.int)) : True := trivial
theorem cd_sortW : CallD K mg T (rSortW K) (c1 dSortW) := cd_1 fun x dx M H Q d s nt rx hf q => by
  cases rx with
  | @lst a vs ds ha ra =>
    have hf : sortWL ds = .ok d := hf
    unfold sortWL at hf
    by_cases h1 : ds.length ≤ 1
    · rw [if_pos h1] at hf
      cases hf
      refine .inl ⟨a, vs, rfl, SqL.of (s _ _ ha), by rw [ra.length]; exact h1, fun p hp => ?_⟩
      obtain ⟨M', e, rr⟩ := newLst (K := K) (mg := mg) (T := T) hp s nt ra
      exact q _ _ _ e rr
    · rw [if_neg h1] at hf
      cases hw : toWs ds with
      | none => rw [hw] at hf; cases hf
      | some ws =>
        rw [hw] at hf
        dsimp only at hf
        by_cases ho : (decide (ws.length < 64) && okWs (ws.getD 0 []).length ws) = true
        · rw [if_pos ho] at hf
          cases hf
          rw [Bool.and_eq_true, decide_eq_true_iff] at ho
          obtain ⟨h64, hok⟩ := ho
          unfold okWs at hok
          rw [Bool.and_eq_true, decide_eq_true_iff, List.all_eq_true] at hok
          obtain ⟨hd1, hall⟩ := hok
          have hbd : ∀ w ∈ ws, w.length = (ws.getD 0 []).length ∧ TS.Bd CB w := fun w hw => by
            have := hall w hw
            rw [Bool.and_eq_true, decide_eq_true_iff, List.all_eq_true] at this
            refine ⟨this.1, fun m hm => ?_⟩
            have := this.2 m hm
            rw [Bool.and_eq_true, decide_eq_true_iff, decide_eq_true_iff] at this
            exact this
          have wr := toWs_rp ra hw
          refine .inr ⟨_, hd1, a, vs, rfl, SqL.of (s _ _ ha), by rw [wr.length]; exact h64, fun x hx => ?_, fun ys p hp hpw hn => ?_⟩
          · obtain ⟨t, w, e1, e2, e3⟩ := wr.mem x hx
            exact ⟨w, ⟨t, e1, same_sqT s e2⟩, hbd w e3⟩
          · obtain ⟨us, w1, w2⟩ := wr.perm hp
            have spw : us.Pairwise (fun a b => TS.code CB a ≤ TS.code CB b) := WR.pw (fun t u a b ha hb h => h a b ⟨t, rfl, same_sqT s ha⟩ ⟨u, rfl, same_sqT s hb⟩) w1 hpw
            have e : us = srtW ws := List.Perm.eq_of_pairwise (fun a b ma mb h1 h2 => by
              have m1 := hbd a (w2.mem_iff.mp ma)
              have m2 := hbd b ((srtW_perm ws).mem_iff.mp mb)
              exact code_inj (m1.1.trans m2.1.symm) m1.2 m2.2 (Int.le_antisymm h1 h2)) spw (srtW_sorted ws) (w2.trans (srtW_perm ws).symm)
            subst e
            obtain ⟨M', e, rr⟩ := newLst (K := K) (mg := mg) (T := T) hn s nt (w1.rpL (mg := mg))
            exact q _ _ _ e rr
        · rw [if_neg ho] at hf
          cases hf
  | _ => cases hf
theorem b_sortW (hm : X.mg "sorted" = none) : Bt X T "sorted" (c1 dSortW) := .fn cr_sortW cd_sortW (nx_c1 nx_sortW) hm (by decide +kernel) (by decide) (by decide)
theorem toWs_map : ∀ ws : List (List Int), toWs (ws.map fun w => D.tup (w.map D.int)) = some ws
  | [] => rfl
  | w :: ws => by
    rw [List.map_cons]
    unfold toWs
    rw [toInts_map, toWs_map ws]
end FL
set_option Elab.async false
set_option linter.all false
set_option maxRecDepth 100000
set_option maxHeartbeats 4000000
namespace K70
open PySem PySem.Spec PyProof.Rows L2 LamX FL
def topS (i : Nat) : Stmt := PySem.Challenge.pw_fewlooks_k70_whole_halves.main.body.getD i (.Pass ⟨0, 0, 0, 0⟩)
structure Gm (K : PySem.W.Frag) (mg : Str → Option Value) : Prop where
  ValueError : mg "ValueError" = none
  abs : mg "abs" = none
  all : mg "all" = none
  any : mg "any" = none
  bool : mg "bool" = none
  enumerate : mg "enumerate" = none
  int : mg "int" = none
  isinstance : mg "isinstance" = none
  len : mg "len" = none
  list : mg "list" = none
  max : mg "max" = none
  min : mg "min" = none
  range : mg "range" = none
  sorted : mg "sorted" = none
  sum : mg "sum" = none
  tuple : mg "tuple" = none
  zip : mg "zip" = none
  c_MOST_NODES : ∃ t, mg "MOST_NODES" = some (.int 10 t)
  x_BadKind : ExI K mg "BadKind"
  x_BadWord : ExI K mg "BadWord"
  x_BadTest : ExI K mg "BadTest"
  x_BadRow : ExI K mg "BadRow"
  x_BadTable : ExI K mg "BadTable"
  x_BadWeb : ExI K mg "BadWeb"
  x_NoFar : ExI K mg "NoFar"
def ns : List Str := ["BadKind", "BadWord", "BadTest", "BadRow", "BadTable", "BadWeb", "NoFar"]
def m_word (isW : D → D → Out D) : FL.Env → SO := sSeq (sSet 1 (mN dLst (mCons (mN (c2 isW) (mCons (mVar 0) (mCons (mC (.fn "BadKind")) (mNil)))) (mCons (mN (c2 isW) (mCons (mVar 0) (mCons (mC (.fn "BadWord")) (mNil)))) (mCons (mN (c2 isW) (mCons (mVar 0) (mCons (mC (.fn "BadTest")) (mNil)))) (mNil)))))) (sSeq (sSet 1 (m2 dAdd (mVar 1) (mN dLst (mCons (mN (c2 isW) (mCons (mVar 0) (mCons (mC (.fn "BadRow")) (mNil)))) (mNil))))) (sSeq (sSet 1 (m2 dAdd (mVar 1) (mN dLst (mCons (mN (c2 isW) (mCons (mVar 0) (mCons (mC (.fn "BadTable")) (mNil)))) (mCons (mN (c2 isW) (mCons (mVar 0) (mCons (mC (.fn "BadWeb")) (mNil)))) (mCons (mN (c2 isW) (mCons (mVar 0) (mCons (mC (.fn "NoFar")) (mNil)))) (mNil))))))) (sSeq (sIf (tOrM (mT (m2 dNe (mN (c1 dSum) (mCons (mComp [2] (.nm 2) (mItL (mVar 1)) tYesM (mN (c1 dInt) (mCons (mVar 2) (mNil)))) (mNil))) (mC (.int 1)))) (tNotM (mT (mN (c2 isW) (mCons (mVar 0) (mCons (mC (.ty "ValueError")) (mNil))))))) (sRet (mC (.str "other"))) (sNext)) (sRet (m2 dIx (mN dLst (mCons (mC (.str "BadKind")) (mCons (mC (.str "BadWord")) (mCons (mC (.str "BadTest")) (mCons (mC (.str "BadRow")) (mCons (mC (.str "BadTable")) (mCons (mC (.str "BadWeb")) (mCons (mC (.str "NoFar")) (mNil))))))))) (mL dIndex (mVar 1) (mC (.bl true))))))))
theorem word_val {c : Str} {ad : Addr} {isW : D → D → Out D} (hc : c ∈ ns) (h1 : ∀ y ∈ ns, isW (.opq ad) (.fn y) = .ok (.bl (decide (y = c)))) (h2 : isW (.opq ad) (.ty "ValueError") = .ok (.bl true)) : defM 1 2 (m_word isW) [.opq ad] = .ok (.str c) := by
  have e_BadKind := h1 "BadKind" (by decide)
  have e_BadWord := h1 "BadWord" (by decide)
  have e_BadTest := h1 "BadTest" (by decide)
  have e_BadRow := h1 "BadRow" (by decide)
  have e_BadTable := h1 "BadTable" (by decide)
  have e_BadWeb := h1 "BadWeb" (by decide)
  have e_NoFar := h1 "NoFar" (by decide)
  simp only [ns, List.mem_cons, List.not_mem_nil, or_false] at hc
  rcases hc with rfl | rfl | rfl | rfl | rfl | rfl | rfl
  all_goals
    (simp only [m_word, defM, sSeq, sSet, sIf, sRet, SO.ofO, SO.ofB, mN, mCons, mNil, mVar, mC, c2, m2, Out.bind, List.map_cons, List.map_nil, List.replicate, List.cons_append, List.nil_append, List.getElem?_cons_zero, List.getElem?_cons_succ, dLst, dAdd, LIM, tOrM, mT, tNotM, List.length_cons, List.length_nil, Nat.zero_add, Nat.reduceAdd, Nat.reduceLeDiff, if_true, List.set_cons_succ, List.set_cons_zero, e_BadKind, e_BadWord, e_BadTest, e_BadRow, e_BadTable, e_BadWeb, e_NoFar, h2]
     rfl)
noncomputable def m_fraction : List D → Out D := defM 2 2 (sSeq (sPar 2 3 (mCons (mN (c1 dAbs) (mCons (mVar 0) (mNil))) (mCons (mVar 1) (mNil)))) (sSeq (sWhile (mT (m2 dGt (mVar 3) (mC (.int 0)))) (sPar 2 3 (mCons (mVar 3) (mCons (m2 dMod (mVar 2) (mVar 3)) (mNil))))) (sRet (mN dTup (mCons (m2 dDiv (mVar 0) (mVar 2)) (mCons (m2 dDiv (mVar 1) (mVar 2)) (mNil)))))))
noncomputable def m_need_test : List D → Out D := defM 1 0 (sIf (tNotM (mT (mVar 0))) (sRaise "BadTest") (sNext))
noncomputable def m_all_looks : List D → Out D := defM 2 3 (sSeq (sSet 2 (mN dLst (mCons (mN dTup (mNil)) (mNil)))) (sSeq (sFor (.nm 3) (mI rng1 (mCons (mVar 0) (mNil))) (sSet 2 (m2 dAdd (mVar 2) (mComp [4] (.nm 4) (mItems (mVar 2)) (mT (m2 dLt (mN (c1 dLen) (mCons (mVar 4) (mNil))) (mVar 1))) (m2 dAdd (mVar 4) (mN dTup (mCons (mVar 3) (mNil)))))))) (sRet (mN (c1 dSortW) (mCons (mComp [4] (.nm 4) (mItems (mVar 2)) (mT (m2 dEq (mN (c1 dLen) (mCons (mVar 4) (mNil))) (mVar 1))) (mVar 4)) (mNil))))))
noncomputable def m_is_node : List D → Out D := defM 2 0 (sRet (mAnd (mN (c2 dIsi) (mCons (mVar 0) (mCons (mC (.ty "int")) (mNil)))) (mAnd (m1 dNot (mN (c2 dIsi) (mCons (mVar 0) (mCons (mC (.ty "bool")) (mNil))))) (mChain dLe dLt (mC (.int 0)) (mVar 0) (mVar 1)))))
noncomputable def m_is_line : List D → Out D := defM 2 1 (sSeq (sIf (tOrM (tNotM (mT (mN (c2 dIsi) (mCons (mVar 0) (mCons (mC (.ty "tuple")) (mNil)))))) (tOrM (mT (m2 dNe (mN (c1 dLen) (mCons (mVar 0) (mNil))) (mC (.int 2)))) (tNotM (mT (mN (c1 dAll) (mCons (mComp [2] (.nm 2) (mItems (mVar 0)) (tYesM) (mN (arg 2 m_is_node) (mCons (mVar 2) (mCons (mVar 1) (mNil))))) (mNil))))))) (sRet (mC (.bl false))) (sNext)) (sRet (m2 dLt (m2 dIx (mVar 0) (mC (.int 0))) (m2 dIx (mVar 0) (mC (.int 1))))))
noncomputable def m_need_web : List D → Out D := defM 1 4 (sSeq (sTup (.tp [1, 2]) (mVar 0)) (sSeq (sIf (tOrM (tNotM (mT (mN (c2 dIsi) (mCons (mVar 2) (mCons (mC (.ty "list")) (mNil)))))) (tOrM (tNotM (mT (mChain dLe dLe (mC (.int 1)) (mVar 1) (mC (.int 10))))) (tNotM (mT (mN (c1 dAll) (mCons (mComp [3] (.nm 3) (mItems (mVar 2)) (tYesM) (mN (arg 2 m_is_line) (mCons (mVar 3) (mCons (mVar 1) (mNil))))) (mNil))))))) (sRaise "BadWeb") (sNext)) (sIf (tNotM (mT (mN (c1 dAll) (mCons (mComp [3, 4] (.tp [3, 4]) (mI zipI (mCons (mVar 2) (mCons (mSl (mVar 2) (oSome (mC (.int 1))) (oNone)) (mNil)))) (tYesM) (m2 dLt (mVar 3) (mVar 4))) (mNil))))) (sRaise "BadWeb") (sNext))))
noncomputable def m_all_halves : List D → Out D := defM 1 4 (sSeq (sSet 1 (mN dLst (mCons (mN dLst (mCons (mC (.int 0)) (mNil))) (mNil)))) (sSeq (sFor (.nm 2) (mI rng2 (mCons (mC (.int 1)) (mCons (mVar 0) (mNil)))) (sSeq (sOwn 3 (mNil)) (sSeq (sFor (.nm 4) (mItems (mVar 1)) (sExtd 3 (mN dLst (mCons (m2 dAdd (mVar 4) (mN dLst (mCons (mC (.int 0)) (mNil)))) (mCons (m2 dAdd (mVar 4) (mN dLst (mCons (mC (.int 1)) (mNil)))) (mNil)))))) (sFrz 3 (sSet 1 (mVar 3)))))) (sRet (mVar 1))))
noncomputable def m_bad_lines : List D → Out D := defM 2 2 (sRet (mN (c1 dLen) (mCons (mComp [2, 3] (.tp [2, 3]) (mItems (mVar 0)) (mT (m2 dEq (m2 dIx (mVar 1) (mVar 2)) (m2 dIx (mVar 1) (mVar 3)))) (mVar 2)) (mNil))))
noncomputable def m_halves_of : List D → Out D := defM 1 3 (sSeq (sDrop (mN (arg 1 m_need_web) (mCons (mVar 0) (mNil)))) (sSeq (sSet 1 (mN (arg 1 m_all_halves) (mCons (m2 dIx (mVar 0) (mC (.int 0))) (mNil)))) (sSeq (sSet 2 (mComp [3] (.nm 3) (mItems (mVar 1)) (tYesM) (mN (arg 2 m_bad_lines) (mCons (m2 dIx (mVar 0) (mC (.int 1))) (mCons (mVar 3) (mNil)))))) (sRet (m2 dIx (mVar 1) (mL dIndex (mVar 2) (mN (c1 dMin) (mCons (mVar 2) (mNil)))))))))
noncomputable def m_far_halves : List D → Out D := defM 1 0 (sRet (mN (arg 2 m_bad_lines) (mCons (m2 dIx (mVar 0) (mC (.int 1))) (mCons (mN (arg 1 m_halves_of) (mCons (mVar 0) (mNil))) (mNil)))))
noncomputable def m_are_so : List D → Out D := defM 2 6 (sSeq (sDct 2) (sSeq (sFor (.nm 3) (mItems (mVar 1)) (sSeq (sOwn 4 (mNil)) (sSeq (sIf (mT (mDct 2 (mVar 3) fNotIn)) (sSeq (sDSet 2 (mVar 3) (mC (.int 0))) (sApp 4 (mVar 3))) (sNext)) (sWhile (mT (mONe 4 (mN dLst (mNil)))) (sSeq (sPop 5 4) (sFor (.nm 6) (mItems (mVar 0)) (sIf (tAndM (mT (m2 dIn (mVar 5) (mVar 6))) (tAndM (mT (m2 dIn (m2 dIx (mVar 6) (mC (.int 0))) (mVar 1))) (mT (m2 dIn (m2 dIx (mVar 6) (mC (.int 1))) (mVar 1))))) (sSeq (sSet 7 (m2 dSub (m2 dAdd (m2 dIx (mVar 6) (mC (.int 0))) (m2 dIx (mVar 6) (mC (.int 1)))) (mVar 5))) (sIf (mT (mDct 2 (mVar 7) fNotIn)) (sSeq (sDSet 2 (mVar 7) (m2 dSub (mC (.int 1)) (mDct 2 (mVar 5) fGet))) (sApp 4 (mVar 7))) (sIf (mT (m2 dEq (mDct 2 (mVar 7) fGet) (mDct 2 (mVar 5) fGet))) (sRet (mC (.bl false))) (sNext)))) (sNext)))))))) (sRet (mC (.bl true)))))
noncomputable def m_by_nodes : List D → Out D := defM 2 2 (sSeq (sDrop (mN (arg 1 m_need_web) (mCons (mVar 0) (mNil)))) (sSeq (sDrop (mN (arg 1 m_need_test) (mCons (mChain dLe dLe (mC (.int 0)) (mVar 1) (m2 dIx (mVar 0) (mC (.int 0)))) (mNil)))) (sSeq (sSet 2 (mN (arg 2 m_all_looks) (mCons (m2 dIx (mVar 0) (mC (.int 0))) (mCons (mVar 1) (mNil))))) (sRet (mN (arg 2 m_fraction) (mCons (mN (c1 dLen) (mCons (mComp [3] (.nm 3) (mItems (mVar 2)) (tNotM (mT (mN (arg 2 m_are_so) (mCons (m2 dIx (mVar 0) (mC (.int 1))) (mCons (mVar 3) (mNil)))))) (mVar 3)) (mNil))) (mCons (mN (c1 dLen) (mCons (mVar 2) (mNil))) (mNil))))))))
noncomputable def m_L_cell : List D → Out D := defM 2 0 (sSeq (sIf (mT (m2 dEq (mVar 0) (mN dLst (mNil)))) (sRet (m2 dMul (mVar 1) (mC (.int 7919)))) (sNext)) (sRet (m2 dAdd (m2 dIx (mVar 0) (m2 dMod (mVar 1) (mN (c1 dLen) (mCons (mVar 0) (mNil))))) (m2 dMul (m2 dDiv (mVar 1) (mN (c1 dLen) (mCons (mVar 0) (mNil)))) (mC (.int 104729))))))
noncomputable def m_L_drawn : List D → Out D := defM 2 1 (sSeq (sSet 2 (m2 dMod (m2 dAdd (m2 dMul (mVar 0) (mC (.int 6364136223846793005))) (m2 dMul (m2 dAdd (mVar 1) (mC (.int 1))) (mC (.int 1442695040888963407)))) (mC (.int 340282366920938463463374607431768211507)))) (sSeq (sSet 2 (m2 dMod (m2 dMul (mVar 2) (mVar 2)) (mC (.int 340282366920938463463374607431768211297)))) (sSeq (sSet 2 (m2 dMul (m2 dMul (m2 dAdd (m2 dMod (mVar 2) (mC (.int 18446744073709551557))) (mC (.int 1))) (m2 dAdd (m2 dDiv (mVar 2) (mC (.int 18446744073709551557))) (mC (.int 1)))) (mVar 2))) (sRet (m2 dMod (mVar 2) (mC (.int 340282366920938463463374607431768211507)))))))
noncomputable def m_L_made : List D → Out D := defM 2 2 (sSeq (sPar 2 3 (mCons (mN (c1 dAbs) (mCons (mVar 0) (mNil))) (mCons (mVar 1) (mNil)))) (sSeq (sWhile (mT (m2 dGt (mVar 3) (mC (.int 0)))) (sPar 2 3 (mCons (mVar 3) (mCons (m2 dMod (mVar 2) (mVar 3)) (mNil))))) (sRet (mN dTup (mCons (m2 dDiv (mVar 0) (mVar 2)) (mCons (m2 dDiv (mVar 1) (mVar 2)) (mNil)))))))
noncomputable def m_L_less : List D → Out D := defM 2 0 (sRet (m2 dLt (m2 dMul (m2 dIx (mVar 0) (mC (.int 0))) (m2 dIx (mVar 1) (mC (.int 1)))) (m2 dMul (m2 dIx (mVar 1) (mC (.int 0))) (m2 dIx (mVar 0) (mC (.int 1))))))
noncomputable def m_L_web : List D → Out D := defM 1 6 (sSeq (sSet 1 (m2 dAdd (mC (.int 1)) (m2 dMod (mVar 0) (mC (.int 7))))) (sSeq (sOwn 2 (mNil)) (sSeq (sFor (.nm 3) (mI rng1 (mCons (mVar 1) (mNil))) (sFor (.nm 4) (mI rng2 (mCons (m2 dAdd (mVar 3) (mC (.int 1))) (mCons (mVar 1) (mNil)))) (sSeq (sSet 5 (mN (arg 2 m_L_drawn) (mCons (mVar 0) (mCons (m2 dAdd (m2 dMul (mC (.int 8)) (mVar 3)) (mVar 4)) (mNil))))) (sSeq (sSet 6 (mOr (m2 dEq (mVar 4) (m2 dAdd (mVar 3) (mC (.int 1)))) (mAnd (m2 dEq (mVar 3) (mC (.int 0))) (m2 dEq (mVar 4) (m2 dSub (mVar 1) (mC (.int 1))))))) (sIf (mT (m2 dIx (mN dLst (mCons (m2 dEq (m2 dMod (mVar 5) (mC (.int 2))) (mC (.int 0))) (mCons (m2 dEq (m2 dMod (mVar 5) (mC (.int 4))) (mC (.int 0))) (mCons (m2 dGt (m2 dMod (mVar 5) (mC (.int 5))) (mC (.int 0))) (mCons (mVar 6) (mNil)))))) (m2 dMod (m2 dDiv (mVar 0) (mC (.int 8))) (mC (.int 4))))) (sApp 2 (mN dTup (mCons (mVar 3) (mCons (mVar 4) (mNil))))) (sNext)))))) (sFrz 2 (sRet (mN dTup (mCons (mVar 1) (mCons (mVar 2) (mNil)))))))))
noncomputable def m_L_lists : List D → Out D := defM 1 4 (sSeq (sSet 1 (mN dLst (mCons (mN dLst (mCons (mC (.int 0)) (mNil))) (mNil)))) (sSeq (sFor (.nm 2) (mI rng1 (mCons (m2 dSub (mVar 0) (mC (.int 1))) (mNil))) (sSeq (sSet 3 (mN dLst (mNil))) (sSeq (sFor (.nm 4) (mItems (mVar 1)) (sSet 3 (m2 dAdd (mVar 3) (mN dLst (mCons (m2 dAdd (mVar 4) (mN dLst (mCons (mC (.int 0)) (mNil)))) (mCons (m2 dAdd (mVar 4) (mN dLst (mCons (mC (.int 1)) (mNil)))) (mNil))))))) (sSet 1 (mVar 3))))) (sRet (mVar 1))))
noncomputable def m_L_bad : List D → Out D := defM 2 2 (sRet (mN (c1 dLen) (mCons (mComp [2, 3] (.tp [2, 3]) (mItems (mVar 0)) (mT (m2 dEq (m2 dIx (mVar 1) (mVar 2)) (m2 dIx (mVar 1) (mVar 3)))) (mVar 2)) (mNil))))
noncomputable def m_L_choices : List D → Out D := defM 2 3 (sSeq (sSet 2 (mN dLst (mCons (mN dLst (mNil)) (mNil)))) (sSeq (sFor (.nm 3) (mI rng1 (mCons (mVar 0) (mNil))) (sSet 2 (m2 dAdd (mVar 2) (mComp [4] (.nm 4) (mItems (mVar 2)) (tYesM) (m2 dAdd (mVar 4) (mN dLst (mCons (mVar 3) (mNil)))))))) (sRet (mComp [4] (.nm 4) (mItems (mVar 2)) (mT (m2 dEq (mN (c1 dLen) (mCons (mVar 4) (mNil))) (mVar 1))) (mVar 4)))))
noncomputable def m_L_is_so : List D → Out D := defM 2 5 (sSeq (sSet 2 (mComp [4] (.nm 4) (mItems (mVar 0)) (tAndM (mT (m2 dIn (m2 dIx (mVar 4) (mC (.int 0))) (mVar 1))) (mT (m2 dIn (m2 dIx (mVar 4) (mC (.int 1))) (mVar 1)))) (mVar 4))) (sSeq (sIf (mT (m2 dEq (mVar 1) (mN dLst (mNil)))) (sRet (mC (.bl true))) (sNext)) (sSeq (sFor (.nm 3) (mItems (mN (arg 1 m_L_lists) (mCons (mN (c1 dLen) (mCons (mVar 1) (mNil))) (mNil)))) (sIf (tNotM (mT (mN (c1 dAny) (mCons (mComp [5, 6] (.tp [5, 6]) (mItems (mVar 2)) (tYesM) (m2 dEq (m2 dIx (mVar 3) (mL dIndex (mVar 1) (mVar 5))) (m2 dIx (mVar 3) (mL dIndex (mVar 1) (mVar 6))))) (mNil))))) (sRet (mC (.bl true))) (sNext))) (sRet (mC (.bl false))))))
noncomputable def m_law : List D → Out D := defM 1 17 (sSeq (sFor (.nm 1) (mI rng1 (mCons (mN (c2 dMax2) (mCons (mC (.int 1)) (mCons (mN (c2 dMin2) (mCons (mC (.int 3)) (mCons (mN (c1 dLen) (mCons (mVar 0) (mNil))) (mNil)))) (mNil)))) (mNil))) (sSeq (sSet 2 (mN (arg 2 m_L_drawn) (mCons (mN (arg 2 m_L_cell) (mCons (mVar 0) (mCons (mVar 1) (mNil)))) (mCons (mVar 1) (mNil))))) (sSeq (sSet 3 (mN (arg 1 m_L_web) (mCons (mVar 2) (mNil)))) (sSeq (sTup (.tp [4, 5]) (mVar 3)) (sSeq (sSet 6 (mN (c1 dList) (mCons (mVar 5) (mNil)))) (sSeq (sSet 7 (mN (arg 1 m_L_lists) (mCons (mVar 4) (mNil)))) (sSeq (sSet 8 (mComp [15] (.nm 15) (mItems (mVar 7)) (tYesM) (mN (arg 2 m_L_bad) (mCons (mVar 5) (mCons (mVar 15) (mNil)))))) (sSeq (sIf (mT (m2 dNe (mTold ns (mN (arg 1 m_far_halves) (mCons (mVar 3) (mNil)))) (mN (c1 dMin) (mCons (mVar 8) (mNil))))) (sRet (mC (.bl false))) (sNext)) (sSeq (sIf (mT (m2 dNe (mTold ns (mN (arg 1 m_halves_of) (mCons (mVar 3) (mNil)))) (m2 dIx (mVar 7) (mL dIndex (mVar 8) (mN (c1 dMin) (mCons (mVar 8) (mNil))))))) (sRet (mC (.bl false))) (sNext)) (sSeq (sSet 9 (mComp [10] (.nm 10) (mI rng1 (mCons (m2 dAdd (mVar 4) (mC (.int 1))) (mNil))) (tYesM) (mTold ns (mN (arg 2 m_by_nodes) (mCons (mVar 3) (mCons (mVar 10) (mNil))))))) (sSeq (sIf (mT (m2 dNe (mN (c1 dList) (mCons (mVar 5) (mNil))) (mVar 6))) (sRet (mC (.bl false))) (sNext)) (sSeq (sFor (.tp [10, 11]) (mI enumI (mCons (mVar 9) (mNil))) (sSeq (sSet 12 (mN (arg 2 m_L_choices) (mCons (mVar 4) (mCons (mVar 10) (mNil))))) (sSeq (sIf (mT (m2 dNe (mVar 11) (mN (arg 2 m_L_made) (mCons (mN (c1 dLen) (mCons (mComp [16] (.nm 16) (mItems (mVar 12)) (tNotM (mT (mN (arg 2 m_L_is_so) (mCons (mVar 5) (mCons (mVar 16) (mNil)))))) (mVar 16)) (mNil))) (mCons (mN (c1 dLen) (mCons (mVar 12) (mNil))) (mNil)))))) (sRet (mC (.bl false))) (sNext)) (sIf (tAndM (mT (m2 dGt (mVar 10) (mC (.int 0)))) (mT (mN (arg 2 m_L_less) (mCons (mVar 11) (mCons (m2 dIx (mVar 9) (m2 dSub (mVar 10) (mC (.int 1)))) (mNil)))))) (sRet (mC (.bl false))) (sNext))))) (sSeq (sSet 13 (mN dLst (mCons (mN dTup (mCons (mC (.int 0)) (mCons (mN dLst (mNil)) (mNil)))) (mCons (mN dTup (mCons (mC (.int 11)) (mCons (mN dLst (mNil)) (mNil)))) (mCons (mN dTup (mCons (mVar 4) (mCons (mN dLst (mCons (mN dTup (mCons (mC (.int 0)) (mCons (mC (.int 0)) (mNil)))) (mNil))) (mNil)))) (mCons (mN dTup (mCons (mVar 4) (mCons (mN dLst (mCons (mN dTup (mCons (mC (.int 1)) (mCons (mC (.int 0)) (mNil)))) (mNil))) (mNil)))) (mCons (mN dTup (mCons (mVar 4) (mCons (mN dLst (mCons (mN dTup (mCons (mC (.int 0)) (mCons (mVar 4) (mNil)))) (mNil))) (mNil)))) (mNil)))))))) (sSeq (sSet 13 (m2 dAdd (mVar 13) (mN dLst (mCons (mN dTup (mCons (mVar 4) (mCons (mN dLst (mCons (mN dLst (mCons (mC (.int 0)) (mCons (mC (.int 1)) (mNil)))) (mNil))) (mNil)))) (mCons (mN dTup (mCons (mVar 4) (mCons (mC .non) (mNil)))) (mNil)))))) (sSeq (sSet 13 (m2 dAdd (mVar 13) (mN dLst (mCons (mN dTup (mCons (mC (.int 8)) (mCons (mN dLst (mCons (mN dTup (mCons (mC (.int 0)) (mCons (mC (.int 1)) (mNil)))) (mCons (mN dTup (mCons (mC (.int 0)) (mCons (mC (.int 1)) (mNil)))) (mNil)))) (mNil)))) (mCons (mN dTup (mCons (mC (.int 8)) (mCons (mN dLst (mCons (mN dTup (mCons (mC (.int 1)) (mCons (mC (.int 2)) (mNil)))) (mCons (mN dTup (mCons (mC (.int 0)) (mCons (mC (.int 1)) (mNil)))) (mNil)))) (mNil)))) (mCons (mN dTup (mCons (mVar 4) (mCons (mN dLst (mCons (mN dTup (mCons (mC (.int 0)) (mCons (mC (.bl true)) (mNil)))) (mNil))) (mNil)))) (mNil))))))) (sSeq (sSet 13 (m2 dAdd (mVar 13) (mN dLst (mCons (mN dTup (mCons (mC (.int 8)) (mCons (mN dLst (mCons (mN dTup (mCons (mC (.int 0)) (mCons (mC (.int 1)) (mCons (mC (.int 2)) (mNil))))) (mNil))) (mNil)))) (mCons (mN dTup (mCons (mVar 4) (mCons (mN dLst (mCons (mN dTup (mCons (m1 dNeg (mC (.int 1))) (mCons (mC (.int 0)) (mNil)))) (mNil))) (mNil)))) (mNil)))))) (sSeq (sSet 14 (m2 dIx (mVar 13) (m2 dMod (m2 dDiv (mVar 2) (m2 dPow (mC (.int 2)) (mC (.int 20)))) (mC (.int 12))))) (sSeq (sIf (mT (m2 dNe (mComp [17] (.nm 17) (mItems (mN dLst (mCons (mC (.fn "far_halves")) (mCons (mC (.fn "halves_of")) (mNil))))) (tYesM) (mTold ns (mCallV 17 1 [("far_halves", m_far_halves), ("halves_of", m_halves_of)] (mCons (mVar 14) (mNil))))) (mN dLst (mCons (mC (.str "BadWeb")) (mCons (mC (.str "BadWeb")) (mNil)))))) (sRet (mC (.bl false))) (sNext)) (sSeq (sIf (mT (m2 dNe (mTold ns (mN (arg 2 m_by_nodes) (mCons (mVar 14) (mCons (m1 dNeg (mC (.int 1))) (mNil))))) (mC (.str "BadWeb")))) (sRet (mC (.bl false))) (sNext)) (sIf (mT (m2 dNe (mComp [10] (.nm 10) (mItems (mN dLst (mCons (m1 dNeg (mC (.int 1))) (mCons (m2 dAdd (mVar 4) (mC (.int 1))) (mNil))))) (tYesM) (mTold ns (mN (arg 2 m_by_nodes) (mCons (mVar 3) (mCons (mVar 10) (mNil)))))) (mN dLst (mCons (mC (.str "BadTest")) (mCons (mC (.str "BadTest")) (mNil)))))) (sRet (mC (.bl false))) (sNext))))))))))))))))))))) (sRet (mC (.bl true))))
section
variable {P : Program} {w : World} {K : PySem.W.Frag} {mg : Str → Option Value} {base : Heap} {T : List (Addr × Str)}
theorem sc_word : FnScope ["e", "flags", "flag"] ["e"] (defScope (topS 29)) := ⟨rfl, rfl, rfl, by decide +kernel, rfl, by decide +kernel, by decide +kernel⟩
theorem sc_told : FnScope ["deed", "e"] ["deed"] (defScope (topS 30)) := ⟨rfl, rfl, rfl, by decide +kernel, rfl, by decide +kernel, by decide +kernel⟩
theorem w_word {c : Str} {C ad fw : Addr} {oe : Obj} (G : Gm K mg) (gx_BadKind : mg "BadKind" = some (.ref (He.ga K "BadKind"))) (gx_BadWord : mg "BadWord" = some (.ref (He.ga K "BadWord"))) (gx_BadTest : mg "BadTest" = some (.ref (He.ga K "BadTest"))) (gx_BadRow : mg "BadRow" = some (.ref (He.ga K "BadRow"))) (gx_BadTable : mg "BadTable" = some (.ref (He.ga K "BadTable"))) (gx_BadWeb : mg "BadWeb" = some (.ref (He.ga K "BadWeb"))) (gx_NoFar : mg "NoFar" = some (.ref (He.ga K "NoFar"))) (W : WordK K mg ns c C) (hz : Zc (.ref C) none oe) (hf : ∃ vs, oe.data = .fields vs) (cdv : Value) (A : Around) (outer : List PySem.Env) (s : Shared) (H : Hp) (hr : L2H.RoomH 0 (A.deeper (envOfC "_law_word" (defScope (topS 29)) s.heap.objs.size fw cdv))) (hot : L2H.Hot1 A (ad, oe)) :
    PSsm (L2H.cxH CX0 P w K mg base ["e", "flags", "flag"] "_law_word" (defScope (topS 29)) fw cdv A outer s H E0 (ad, oe)).nox T E0 (defBody (topS 29)) (m_word (dIsW ns c ad)) := by
  have nd := sc_word.nd
  exact ss_cons (s_st 1 nd (e_lst (a_cons (e_bt (b_isW W hz hf List.mem_cons_self G.isinstance) rfl (a_cons (ev 0) (a_cons (e_fn (gx_BadKind) rfl) (a_nil)))) (a_cons (e_bt (b_isW W hz hf List.mem_cons_self G.isinstance) rfl (a_cons (ev 0) (a_cons (e_fn (gx_BadWord) rfl) (a_nil)))) (a_cons (e_bt (b_isW W hz hf List.mem_cons_self G.isinstance) rfl (a_cons (ev 0) (a_cons (e_fn (gx_BadTest) rfl) (a_nil)))) (a_nil)))))) (ss_cons (s_st 1 nd (e_add (ev 1) (e_lst (a_cons (e_bt (b_isW W hz hf List.mem_cons_self G.isinstance) rfl (a_cons (ev 0) (a_cons (e_fn (gx_BadRow) rfl) (a_nil)))) (a_nil))))) (ss_cons (s_st 1 nd (e_add (ev 1) (e_lst (a_cons (e_bt (b_isW W hz hf List.mem_cons_self G.isinstance) rfl (a_cons (ev 0) (a_cons (e_fn (gx_BadTable) rfl) (a_nil)))) (a_cons (e_bt (b_isW W hz hf List.mem_cons_self G.isinstance) rfl (a_cons (ev 0) (a_cons (e_fn (gx_BadWeb) rfl) (a_nil)))) (a_cons (e_bt (b_isW W hz hf List.mem_cons_self G.isinstance) rfl (a_cons (ev 0) (a_cons (e_fn (gx_NoFar) rfl) (a_nil)))) (a_nil))))))) (ss_cons (s_if (t_w (w_or (t_cm (c_neH hr) (e_bt (b_sumH (hotC hot) G.sum) rfl (a_cons (e_lcH 2 (hotC hot) nd (ev 1) (blkOk_by (by kernel_rfl)) (fun _ _ _ _ _ => g_nm 2 nd) (fun _ _ _ _ _ => e_bt (b_int G.int) rfl (a_cons (ev 2) (a_nil)))) (a_nil))) (e_int) (nomark _)) (w_or1 (t_not (t_val (e_bt (b_isW W hz hf List.mem_cons_self G.isinstance) rfl (a_cons (ev 0) (a_cons (e_ty G.ValueError (by decide +kernel) rfl) (a_nil))))))))) (ss_one (s_ret (e_str))) (ss_nil)) (ss_one (s_ret (e_ix (e_lst (a_cons (e_str) (a_cons (e_str) (a_cons (e_str) (a_cons (e_str) (a_cons (e_str) (a_cons (e_str) (a_cons (e_str) (a_nil))))))))) (e_index (ev 1) (e_bl)) (fun _ _ => rfl)))))))
theorem v_word : ∀ c ∈ ns, ∀ ad, defM 1 2 (m_word (dIsW ns c ad)) [.opq ad] = .ok (.str c) := by
  intro c hc ad
  have h1 : ∀ y ∈ ns, dIsW ns c ad (.opq ad) (.fn y) = .ok (.bl (decide (y = c))) := fun y hy => if_pos ⟨rfl, hy⟩
  have h2 : dIsW ns c ad (.opq ad) (.ty "ValueError") = .ok (.bl true) := if_pos ⟨rfl, rfl⟩
  exact word_val hc h1 h2
theorem td {fdT fdW : FuncData} {CS : Addr} (G : Gm K mg) (gx_BadKind : mg "BadKind" = some (.ref (He.ga K "BadKind"))) (gx_BadWord : mg "BadWord" = some (.ref (He.ga K "BadWord"))) (gx_BadTest : mg "BadTest" = some (.ref (He.ga K "BadTest"))) (gx_BadRow : mg "BadRow" = some (.ref (He.ga K "BadRow"))) (gx_BadTable : mg "BadTable" = some (.ref (He.ga K "BadTable"))) (gx_BadWeb : mg "BadWeb" = some (.ref (He.ga K "BadWeb"))) (gx_NoFar : mg "NoFar" = some (.ref (He.ga K "NoFar"))) (WK : ∀ c ∈ ns, ∀ C, mg c = some (.ref C) → WordK K mg ns c C) (gL : mg "LookError" = some (.ref CS)) (hexm : ∀ c ∈ ns, ∀ C, mg c = some (.ref C) → PySem.W.exmOne K (.ref C) (.ref CS) = some true)
    (FT : FunD K "_law_told" "_law_told" (defArgs (topS 30)) (defBody (topS 30)) (defScope (topS 30)) [] [] (He.ga K "_law_told") fdT) (gT : mg "_law_told" = some (.ref (He.ga K "_law_told")))
    (FW : FunD K "_law_word" "_law_word" (defArgs (topS 29)) (defBody (topS 29)) (defScope (topS 29)) [] [] (He.ga K "_law_word") fdW) (gW : mg "_law_word" = some (.ref (He.ga K "_law_word"))) : Told P w K mg base T ns "LookError" "_law_told" "_law_word" "deed" "e" 0 :=
  ⟨⟨_, CS, _, fdT, fdW, _, _, _, _, _, _, "e", _, _, _, _, _, _, _, _, _, _, ⟨0, 0, 0, 0⟩, fun c ad => m_word (dIsW ns c ad), FT, gT, sc_told, rfl, .inl rfl, rfl, rfl, (fun _ _ _ _ _ _ us hl => match us, hl with | [_], _ => rfl),
    FW, gW, sc_word, (fun _ _ _ _ _ _ us hl => match us, hl with | [_], _ => rfl), gL, hexm, fun c hc C hC ad oe hz hf cdv A outer s H hr hot => w_word G gx_BadKind gx_BadWord gx_BadTest gx_BadRow gx_BadTable gx_BadWeb gx_NoFar (WK c hc C hC) hz hf cdv A outer s H hr hot, v_word⟩⟩
theorem sc_fraction : FnScope ["top", "under", "one", "other"] ["top", "under"] (defScope (topS 10)) := ⟨rfl, rfl, rfl, by decide +kernel, rfl, by decide +kernel, by decide +kernel⟩
theorem k_fraction {a : Addr} {fd : FuncData} (G : Gm K mg)   (F : FunD K "fraction" "fraction" (defArgs (topS 10)) (defBody (topS 10)) (defScope (topS 10)) [] [] a fd) (hg : mg "fraction" = some (.ref a)) : FnI P w K mg base T 1 "fraction" 2 m_fraction := by
  have nd := sc_fraction.nd
  refine def_ok (k := 0) 2 F sc_fraction rfl hg (fun _ _ _ _ _ _ us hl => match us, hl with | [_, _], _ => rfl) (fun cdv A outer s H E hr => ?_)
  exact ss_cons (sp2 2 3 (ps_par rfl nd rfl rfl (by decide) rfl rfl (a_cons (e_bt (b_abs G.abs) rfl (a_cons (ev 0) (a_nil))) (a_cons (ev 1) (a_nil))) (by rfl))) (ss_cons (s_while (passes_of rfl) (t_cm (c_gt) (ev 3) (e_int) (nomark _)) (ss_one (sp2 2 3 (ps_par rfl nd rfl rfl (by decide) rfl rfl (a_cons (ev 3) (a_cons (e_mod (ev 2) (ev 3)) (a_nil))) (by rfl))))) (ss_one (s_ret (e_tup (a_cons (e_div (ev 0) (ev 2)) (a_cons (e_div (ev 1) (ev 2)) (a_nil)))))))
theorem sc_need_test : FnScope ["good"] ["good"] (defScope (topS 12)) := ⟨rfl, rfl, rfl, by decide +kernel, rfl, by decide +kernel, by decide +kernel⟩
theorem k_need_test {a : Addr} {fd : FuncData} (G : Gm K mg)   (F : FunD K "need_test" "need_test" (defArgs (topS 12)) (defBody (topS 12)) (defScope (topS 12)) [] [] a fd) (hg : mg "need_test" = some (.ref a)) : FnI P w K mg base T 1 "need_test" 1 m_need_test := by
  have nd := sc_need_test.nd
  refine def_ok (k := 0) 1 F sc_need_test rfl hg (fun _ _ _ _ _ _ us hl => match us, hl with | [_], _ => rfl) (fun cdv A outer s H E hr => ?_)
  exact ss_one (s_if (t_not (t_val (ev 0))) (ss_one (s_raise (G.x_BadTest) takesE rfl rfl)) (ss_nil))
theorem sc_all_looks : FnScope ["long", "count", "found", "at", "looks"] ["long", "count"] (defScope (topS 14)) := ⟨rfl, rfl, rfl, by decide +kernel, rfl, by decide +kernel, by decide +kernel⟩
theorem k_all_looks {a : Addr} {fd : FuncData} (G : Gm K mg)   (F : FunD K "all_looks" "all_looks" (defArgs (topS 14)) (defBody (topS 14)) (defScope (topS 14)) [] [] a fd) (hg : mg "all_looks" = some (.ref a)) : FnI P w K mg base T 1 "all_looks" 2 m_all_looks := by
  have nd := sc_all_looks.nd
  refine def_ok (k := 0) 2 F sc_all_looks rfl hg (fun _ _ _ _ _ _ us hl => match us, hl with | [_, _], _ => rfl) (fun cdv A outer s H E hr => ?_)
  exact ss_cons (s_st 2 nd (e_lst (a_cons (e_tup (a_nil)) (a_nil)))) (ss_cons (s_for (p := .nm 3) (passes_of rfl) rfl (i_range1 rfl G.range (a_cons (ev 0) (a_nil))) (g_nm 3 nd) (ss_one (s_st 2 nd (e_add (ev 2) (e_lc [("looks", 4)] (.nm 4) rfl nd (i_c (i_seq (ev 2))) (blkOk_by (by kernel_rfl)) (fun _ _ _ _ _ => g_nm 4 nd) (fun _ _ _ _ _ => ts_one (t_cm (c_lt hr) (e_bt (b_len G.len) rfl (a_cons (ev 4) (a_nil))) (ev 1) (nomark _))) (fun _ _ _ _ _ => e_add (ev 4) (e_tup (a_cons (ev 3) (a_nil))))))))) (ss_one (s_ret (e_bt (b_sortW G.sorted) rfl (a_cons (e_lc [("looks", 4)] (.nm 4) rfl nd (i_c (i_seq (ev 2))) (blkOk_by (by kernel_rfl)) (fun _ _ _ _ _ => g_nm 4 nd) (fun _ _ _ _ _ => ts_one (t_cm (c_eq hr) (e_bt (b_len G.len) rfl (a_cons (ev 4) (a_nil))) (ev 1) (nomark _))) (fun _ _ _ _ _ => ev 4)) (a_nil))))))
theorem sc_is_node : FnScope ["thing", "many"] ["thing", "many"] (defScope (topS 17)) := ⟨rfl, rfl, rfl, by decide +kernel, rfl, by decide +kernel, by decide +kernel⟩
theorem k_is_node {a : Addr} {fd : FuncData} (G : Gm K mg)   (F : FunD K "is_node" "is_node" (defArgs (topS 17)) (defBody (topS 17)) (defScope (topS 17)) [] [] a fd) (hg : mg "is_node" = some (.ref a)) : FnI P w K mg base T 1 "is_node" 2 m_is_node := by
  have nd := sc_is_node.nd
  refine def_ok (k := 0) 2 F sc_is_node rfl hg (fun _ _ _ _ _ _ us hl => match us, hl with | [_, _], _ => rfl) (fun cdv A outer s H E hr => ?_)
  exact ss_one (s_ret (e_and (e_bt (b_isi G.isinstance) rfl (a_cons (ev 0) (a_cons (e_ty G.int (by decide +kernel) rfl) (a_nil)))) (e_and (e_not (e_bt (b_isi G.isinstance) rfl (a_cons (ev 0) (a_cons (e_ty G.bool (by decide +kernel) rfl) (a_nil))))) (e_one (e_ch (c_le) (c_lt hr) (e_int) (ev 0) (ev 1))))))
theorem sc_is_line : FnScope ["thing", "many", "one"] ["thing", "many"] (defScope (topS 18)) := ⟨rfl, rfl, rfl, by decide +kernel, rfl, by decide +kernel, by decide +kernel⟩
theorem k_is_line {a : Addr} {fd : FuncData} (G : Gm K mg) (F_is_node : FnI P w K mg base T 1 "is_node" 2 m_is_node)  (F : FunD K "is_line" "is_line" (defArgs (topS 18)) (defBody (topS 18)) (defScope (topS 18)) [] [] a fd) (hg : mg "is_line" = some (.ref a)) : FnI P w K mg base T 2 "is_line" 2 m_is_line := by
  have nd := sc_is_line.nd
  refine def_ok (k := 1) 2 F sc_is_line rfl hg (fun _ _ _ _ _ _ us hl => match us, hl with | [_, _], _ => rfl) (fun cdv A outer s H E hr => ?_)
  exact ss_cons (s_if (t_w (w_or (t_not (t_val (e_bt (b_isi G.isinstance) rfl (a_cons (ev 0) (a_cons (e_ty G.tuple (by decide +kernel) rfl) (a_nil)))))) (w_or (t_cm (c_ne hr) (e_bt (b_len G.len) rfl (a_cons (ev 0) (a_nil))) (e_int) (nomark _)) (w_or1 (t_not (t_val (e_bt (b_all rfl G.all) rfl (a_cons (e_lc [("one", 2)] (.nm 2) rfl nd (i_c (i_seq (ev 0))) (blkOk_by (by kernel_rfl)) (fun _ _ _ _ _ => g_nm 2 nd) (fun _ _ _ _ _ => ts_nil) (fun _ _ _ _ _ => e_call F_is_node (hr.mono (by decide)) passN rfl (a_cons (ev 2) (a_cons (ev 1) (a_nil))))) (a_nil))))))))) (ss_one (s_ret (e_bl))) (ss_nil)) (ss_one (s_ret (e_cm (c_lt hr) (e_ix (ev 0) (e_int) (fun _ _ => rfl)) (e_ix (ev 0) (e_int) (fun _ _ => rfl)) (nomark _))))
theorem sc_need_web : FnScope ["web", "many", "lines", "one", "other"] ["web"] (defScope (topS 19)) := ⟨rfl, rfl, rfl, by decide +kernel, rfl, by decide +kernel, by decide +kernel⟩
theorem k_need_web {a : Addr} {fd : FuncData} (G : Gm K mg) (F_is_line : FnI P w K mg base T 2 "is_line" 2 m_is_line)  (F : FunD K "need_web" "need_web" (defArgs (topS 19)) (defBody (topS 19)) (defScope (topS 19)) [] [] a fd) (hg : mg "need_web" = some (.ref a)) : FnI P w K mg base T 3 "need_web" 1 m_need_web := by
  have nd := sc_need_web.nd
  refine def_ok (k := 2) 1 F sc_need_web rfl hg (fun _ _ _ _ _ _ us hl => match us, hl with | [_], _ => rfl) (fun cdv A outer s H E hr => ?_)
  exact ss_cons (s_tup (p := .tp [1, 2]) (ps_asg (ev 0) (pg_tup rfl (pgs_cons (g_nm 1 nd) (pgs_cons (g_nm 2 nd) (pgs_nil)))))) (ss_cons (s_if (t_w (w_or (t_not (t_val (e_bt (b_isi G.isinstance) rfl (a_cons (ev 2) (a_cons (e_ty G.list (by decide +kernel) rfl) (a_nil)))))) (w_or (t_not (t_ch (c_le) (c_le) (e_int) (ev 1) (e_gint G.c_MOST_NODES rfl))) (w_or1 (t_not (t_val (e_bt (b_all rfl G.all) rfl (a_cons (e_lc [("one", 3)] (.nm 3) rfl nd (i_c (i_seq (ev 2))) (blkOk_by (by kernel_rfl)) (fun _ _ _ _ _ => g_nm 3 nd) (fun _ _ _ _ _ => ts_nil) (fun _ _ _ _ _ => e_call F_is_line (hr.mono (by decide)) passN rfl (a_cons (ev 3) (a_cons (ev 1) (a_nil))))) (a_nil))))))))) (ss_one (s_raise (G.x_BadWeb) takesE rfl rfl)) (ss_nil)) (ss_one (s_if (t_not (t_val (e_bt (b_all rfl G.all) rfl (a_cons (e_lc [("one", 3), ("other", 4)] (.tp [3, 4]) rfl nd (i_c (i_zip rfl G.zip (a_cons (ev 2) (a_cons (e_slice (ev 2) (o_some (e_int)) (o_none)) (a_nil))))) (blkOk_by (by kernel_rfl)) (fun _ _ _ _ _ => pg_tup rfl (pgs_cons (g_nm 3 nd) (pgs_cons (g_nm 4 nd) (pgs_nil)))) (fun _ _ _ _ _ => ts_nil) (fun _ _ _ _ _ => e_cm (c_lt hr) (ev 3) (ev 4) (nomark _))) (a_nil))))) (ss_one (s_raise (G.x_BadWeb) takesE rfl rfl)) (ss_nil))))
theorem sc_all_halves : FnScope ["many", "found", "node", "longer", "one"] ["many"] (defScope (topS 20)) := ⟨rfl, rfl, rfl, by decide +kernel, rfl, by decide +kernel, by decide +kernel⟩
theorem k_all_halves {a : Addr} {fd : FuncData} (G : Gm K mg)   (F : FunD K "all_halves" "all_halves" (defArgs (topS 20)) (defBody (topS 20)) (defScope (topS 20)) [] [] a fd) (hg : mg "all_halves" = some (.ref a)) : FnI P w K mg base T 1 "all_halves" 1 m_all_halves := by
  have nd := sc_all_halves.nd
  refine def_ok (k := 0) 1 F sc_all_halves rfl hg (fun _ _ _ _ _ _ us hl => match us, hl with | [_], _ => rfl) (fun cdv A outer s H E hr => ?_)
  exact ss_cons (s_st 1 nd (e_lst (a_cons (e_lst (a_cons (e_int) (a_nil))) (a_nil)))) (ss_cons (s_for (p := .nm 2) (passes_of rfl) rfl (i_range2 (pi_range2 rfl G.range (a_cons (e_int) (a_cons (ev 0) (a_nil))))) (g_nm 2 nd) (ss_cons (s_so 3 nd (a_nil)) (ss_cons (s_for (p := .nm 4) (passes_of rfl) rfl (i_seq (ev 1)) (g_nm 4 nd) (ss_one (s_extd (i := 3) (e_lst (a_cons (e_add (ev 4) (e_lst (a_cons (e_int) (a_nil)))) (a_cons (e_add (ev 4) (e_lst (a_cons (e_int) (a_nil)))) (a_nil))))))) (ss_one (s_frz (i := 3) (s_st 1 nd (ev 3))))))) (ss_one (s_ret (ev 1))))
theorem sc_bad_lines : FnScope ["lines", "halves", "one", "other"] ["lines", "halves"] (defScope (topS 21)) := ⟨rfl, rfl, rfl, by decide +kernel, rfl, by decide +kernel, by decide +kernel⟩
theorem k_bad_lines {a : Addr} {fd : FuncData} (G : Gm K mg)   (F : FunD K "bad_lines" "bad_lines" (defArgs (topS 21)) (defBody (topS 21)) (defScope (topS 21)) [] [] a fd) (hg : mg "bad_lines" = some (.ref a)) : FnI P w K mg base T 1 "bad_lines" 2 m_bad_lines := by
  have nd := sc_bad_lines.nd
  refine def_ok (k := 0) 2 F sc_bad_lines rfl hg (fun _ _ _ _ _ _ us hl => match us, hl with | [_, _], _ => rfl) (fun cdv A outer s H E hr => ?_)
  exact ss_one (s_ret (e_bt (b_len G.len) rfl (a_cons (e_lc [("one", 2), ("other", 3)] (.tp [2, 3]) rfl nd (i_c (i_seq (ev 0))) (blkOk_by (by kernel_rfl)) (fun _ _ _ _ _ => pg_tup rfl (pgs_cons (g_nm 2 nd) (pgs_cons (g_nm 3 nd) (pgs_nil)))) (fun _ _ _ _ _ => ts_one (t_cm (c_eq hr) (e_ix (ev 1) (ev 2) (fun _ _ => rfl)) (e_ix (ev 1) (ev 3) (fun _ _ => rfl)) (nomark _))) (fun _ _ _ _ _ => ev 2)) (a_nil))))
theorem sc_halves_of : FnScope ["web", "row", "counts", "halves"] ["web"] (defScope (topS 22)) := ⟨rfl, rfl, rfl, by decide +kernel, rfl, by decide +kernel, by decide +kernel⟩
theorem k_halves_of {a : Addr} {fd : FuncData} (G : Gm K mg) (F_need_web : FnI P w K mg base T 3 "need_web" 1 m_need_web) (F_all_halves : FnI P w K mg base T 1 "all_halves" 1 m_all_halves) (F_bad_lines : FnI P w K mg base T 1 "bad_lines" 2 m_bad_lines)  (F : FunD K "halves_of" "halves_of" (defArgs (topS 22)) (defBody (topS 22)) (defScope (topS 22)) [] [] a fd) (hg : mg "halves_of" = some (.ref a)) : FnI P w K mg base T 4 "halves_of" 1 m_halves_of := by
  have nd := sc_halves_of.nd
  refine def_ok (k := 3) 1 F sc_halves_of rfl hg (fun _ _ _ _ _ _ us hl => match us, hl with | [_], _ => rfl) (fun cdv A outer s H E hr => ?_)
  exact ss_cons (s_expr (e_call F_need_web (hr.mono (by decide)) passE rfl (a_cons (ev 0) (a_nil)))) (ss_cons (s_st 1 nd (e_call F_all_halves (hr.mono (by decide)) passE rfl (a_cons (e_ix (ev 0) (e_int) (fun _ _ => rfl)) (a_nil)))) (ss_cons (s_setLc [("halves", 3)] (.nm 3) (i := 2) rfl nd rfl rfl (sw_true rfl rfl rfl (by kernel_rfl)) (i_c (i_seq (ev 1))) (blkOk_by (by kernel_rfl)) (fun _ _ _ _ _ => g_nm 3 nd) (fun _ _ _ _ _ => ts_nil) (fun _ _ _ _ _ => e_call F_bad_lines (hr.mono (by decide)) passN rfl (a_cons (e_ix (ev 0) (e_int) (fun _ _ => rfl)) (a_cons (ev 3) (a_nil))))) (ss_one (s_ret (e_ix (ev 1) (e_index (ev 2) (e_bt (b_min rfl G.min) rfl (a_cons (ev 2) (a_nil)))) (fun _ _ => rfl))))))
theorem sc_far_halves : FnScope ["web"] ["web"] (defScope (topS 23)) := ⟨rfl, rfl, rfl, by decide +kernel, rfl, by decide +kernel, by decide +kernel⟩
theorem k_far_halves {a : Addr} {fd : FuncData} (G : Gm K mg) (F_bad_lines : FnI P w K mg base T 1 "bad_lines" 2 m_bad_lines) (F_halves_of : FnI P w K mg base T 4 "halves_of" 1 m_halves_of)  (F : FunD K "far_halves" "far_halves" (defArgs (topS 23)) (defBody (topS 23)) (defScope (topS 23)) [] [] a fd) (hg : mg "far_halves" = some (.ref a)) : FnI P w K mg base T 5 "far_halves" 1 m_far_halves := by
  have nd := sc_far_halves.nd
  refine def_ok (k := 4) 1 F sc_far_halves rfl hg (fun _ _ _ _ _ _ us hl => match us, hl with | [_], _ => rfl) (fun cdv A outer s H E hr => ?_)
  exact ss_one (s_ret (e_call F_bad_lines (hr.mono (by decide)) passE rfl (a_cons (e_ix (ev 0) (e_int) (fun _ _ => rfl)) (a_cons (e_call F_halves_of (hr.mono (by decide)) passE rfl (a_cons (ev 0) (a_nil))) (a_nil)))))
theorem sc_are_so : FnScope ["lines", "nodes", "halves", "begin", "waiting", "node", "line", "other"] ["lines", "nodes"] (defScope (topS 24)) := ⟨rfl, rfl, rfl, by decide +kernel, rfl, by decide +kernel, by decide +kernel⟩
theorem k_are_so {a : Addr} {fd : FuncData} (G : Gm K mg)   (F : FunD K "are_so" "are_so" (defArgs (topS 24)) (defBody (topS 24)) (defScope (topS 24)) [] [] a fd) (hg : mg "are_so" = some (.ref a)) : FnI P w K mg base T 1 "are_so" 2 m_are_so := by
  have nd := sc_are_so.nd
  refine def_ok (k := 0) 2 F sc_are_so rfl hg (fun _ _ _ _ _ _ us hl => match us, hl with | [_, _], _ => rfl) (fun cdv A outer s H E hr => ?_)
  exact ss_cons (s_dct 2 nd) (ss_cons (s_for (p := .nm 3) (passes_of rfl) rfl (i_seq (ev 1)) (g_nm 3 nd) (ss_cons (s_so 4 nd (a_nil)) (ss_cons (s_if (t_dnotin 2 hr (ev 3)) (ss_cons (s_dset 2 hr (ev 3) (e_int)) (ss_one (s_app (i := 4) (ev 3)))) (ss_nil)) (ss_one (s_while (passes_of rfl) (t_one 4 hr (e_lst (a_nil)) (hm := nomark _)) (ss_cons (s_pop 5 4 nd) (ss_one (s_for (p := .nm 6) (passes_of rfl) rfl (i_seq (ev 0)) (g_nm 6 nd) (ss_one (s_if (t_w (w_and (t_cm (c_in hr) (ev 5) (ev 6)) (w_and (t_cm (c_in hr) (e_ix (ev 6) (e_int) (fun _ _ => rfl)) (ev 1)) (w_and1 (t_cm (c_in hr) (e_ix (ev 6) (e_int) (fun _ _ => rfl)) (ev 1)))))) (ss_cons (s_st 7 nd (e_sub (e_add (e_ix (ev 6) (e_int) (fun _ _ => rfl)) (e_ix (ev 6) (e_int) (fun _ _ => rfl))) (ev 5))) (ss_one (s_if (t_dnotin 2 hr (ev 7)) (ss_cons (s_dset 2 hr (ev 7) (e_sub (e_int) (e_dget 2 hr (ev 5) (fun _ _ => rfl)))) (ss_one (s_app (i := 4) (ev 7)))) (ss_one (s_if (t_cm (c_eq hr) (e_dget 2 hr (ev 7) (fun _ _ => rfl)) (e_dget 2 hr (ev 5) (fun _ _ => rfl)) (nomark _)) (ss_one (s_ret (e_bl))) (ss_nil)))))) (ss_nil))))))))))) (ss_one (s_ret (e_bl))))
theorem sc_by_nodes : FnScope ["web", "many", "row", "nodes"] ["web", "many"] (defScope (topS 25)) := ⟨rfl, rfl, rfl, by decide +kernel, rfl, by decide +kernel, by decide +kernel⟩
theorem k_by_nodes {a : Addr} {fd : FuncData} (G : Gm K mg) (F_fraction : FnI P w K mg base T 1 "fraction" 2 m_fraction) (F_need_test : FnI P w K mg base T 1 "need_test" 1 m_need_test) (F_all_looks : FnI P w K mg base T 1 "all_looks" 2 m_all_looks) (F_need_web : FnI P w K mg base T 3 "need_web" 1 m_need_web) (F_are_so : FnI P w K mg base T 1 "are_so" 2 m_are_so)  (F : FunD K "by_nodes" "by_nodes" (defArgs (topS 25)) (defBody (topS 25)) (defScope (topS 25)) [] [] a fd) (hg : mg "by_nodes" = some (.ref a)) : FnI P w K mg base T 4 "by_nodes" 2 m_by_nodes := by
  have nd := sc_by_nodes.nd
  refine def_ok (k := 3) 2 F sc_by_nodes rfl hg (fun _ _ _ _ _ _ us hl => match us, hl with | [_, _], _ => rfl) (fun cdv A outer s H E hr => ?_)
  exact ss_cons (s_expr (e_call F_need_web (hr.mono (by decide)) passE rfl (a_cons (ev 0) (a_nil)))) (ss_cons (s_expr (e_call F_need_test (hr.mono (by decide)) passE rfl (a_cons (e_ch (c_le) (c_le) (e_int) (ev 1) (e_ix (ev 0) (e_int) (fun _ _ => rfl))) (a_nil)))) (ss_cons (s_st 2 nd (e_call F_all_looks (hr.mono (by decide)) passE rfl (a_cons (e_ix (ev 0) (e_int) (fun _ _ => rfl)) (a_cons (ev 1) (a_nil))))) (ss_one (s_ret (e_call F_fraction (hr.mono (by decide)) passE rfl (a_cons (e_bt (b_len G.len) rfl (a_cons (e_lc [("nodes", 3)] (.nm 3) rfl nd (i_c (i_seq (ev 2))) (blkOk_by (by kernel_rfl)) (fun _ _ _ _ _ => g_nm 3 nd) (fun _ _ _ _ _ => ts_one (t_not (t_val (e_call F_are_so (hr.mono (by decide)) passN rfl (a_cons (e_ix (ev 0) (e_int) (fun _ _ => rfl)) (a_cons (ev 3) (a_nil))))))) (fun _ _ _ _ _ => ev 3)) (a_nil))) (a_cons (e_bt (b_len G.len) rfl (a_cons (ev 2) (a_nil))) (a_nil))))))))
theorem sc_L_cell : FnScope ["script", "k"] ["script", "k"] (defScope (topS 27)) := ⟨rfl, rfl, rfl, by decide +kernel, rfl, by decide +kernel, by decide +kernel⟩
theorem k_L_cell {a : Addr} {fd : FuncData} (G : Gm K mg)   (F : FunD K "_law_cell" "_law_cell" (defArgs (topS 27)) (defBody (topS 27)) (defScope (topS 27)) [] [] a fd) (hg : mg "_law_cell" = some (.ref a)) : FnI P w K mg base T 1 "_law_cell" 2 m_L_cell := by
  have nd := sc_L_cell.nd
  refine def_ok (k := 0) 2 F sc_L_cell rfl hg (fun _ _ _ _ _ _ us hl => match us, hl with | [_, _], _ => rfl) (fun cdv A outer s H E hr => ?_)
  exact ss_cons (s_if (t_cm (c_eq hr) (ev 0) (e_lst (a_nil)) (nomark _)) (ss_one (s_ret (e_mul (ev 1) (e_int)))) (ss_nil)) (ss_one (s_ret (e_add (e_ix (ev 0) (e_mod (ev 1) (e_bt (b_len G.len) rfl (a_cons (ev 0) (a_nil)))) (fun _ _ => rfl)) (e_mul (e_div (ev 1) (e_bt (b_len G.len) rfl (a_cons (ev 0) (a_nil)))) (e_int)))))
theorem sc_L_drawn : FnScope ["cell", "k", "more"] ["cell", "k"] (defScope (topS 28)) := ⟨rfl, rfl, rfl, by decide +kernel, rfl, by decide +kernel, by decide +kernel⟩
theorem k_L_drawn {a : Addr} {fd : FuncData} (G : Gm K mg)   (F : FunD K "_law_drawn" "_law_drawn" (defArgs (topS 28)) (defBody (topS 28)) (defScope (topS 28)) [] [] a fd) (hg : mg "_law_drawn" = some (.ref a)) : FnI P w K mg base T 1 "_law_drawn" 2 m_L_drawn := by
  have nd := sc_L_drawn.nd
  refine def_ok (k := 0) 2 F sc_L_drawn rfl hg (fun _ _ _ _ _ _ us hl => match us, hl with | [_, _], _ => rfl) (fun cdv A outer s H E hr => ?_)
  exact ss_cons (s_st 2 nd (e_mod (e_add (e_mul (ev 0) (e_int)) (e_mul (e_add (ev 1) (e_int)) (e_int))) (e_int))) (ss_cons (s_st 2 nd (e_mod (e_mul (ev 2) (ev 2)) (e_int))) (ss_cons (s_st 2 nd (e_mul (e_mul (e_add (e_mod (ev 2) (e_int)) (e_int)) (e_add (e_div (ev 2) (e_int)) (e_int))) (ev 2))) (ss_one (s_ret (e_mod (ev 2) (e_int))))))
theorem sc_L_made : FnScope ["top", "under", "one", "other"] ["top", "under"] (defScope (topS 31)) := ⟨rfl, rfl, rfl, by decide +kernel, rfl, by decide +kernel, by decide +kernel⟩
theorem k_L_made {a : Addr} {fd : FuncData} (G : Gm K mg)   (F : FunD K "_law_made" "_law_made" (defArgs (topS 31)) (defBody (topS 31)) (defScope (topS 31)) [] [] a fd) (hg : mg "_law_made" = some (.ref a)) : FnI P w K mg base T 1 "_law_made" 2 m_L_made := by
  have nd := sc_L_made.nd
  refine def_ok (k := 0) 2 F sc_L_made rfl hg (fun _ _ _ _ _ _ us hl => match us, hl with | [_, _], _ => rfl) (fun cdv A outer s H E hr => ?_)
  exact ss_cons (sp2 2 3 (ps_par rfl nd rfl rfl (by decide) rfl rfl (a_cons (e_bt (b_abs G.abs) rfl (a_cons (ev 0) (a_nil))) (a_cons (ev 1) (a_nil))) (by rfl))) (ss_cons (s_while (passes_of rfl) (t_cm (c_gt) (ev 3) (e_int) (nomark _)) (ss_one (sp2 2 3 (ps_par rfl nd rfl rfl (by decide) rfl rfl (a_cons (ev 3) (a_cons (e_mod (ev 2) (ev 3)) (a_nil))) (by rfl))))) (ss_one (s_ret (e_tup (a_cons (e_div (ev 0) (ev 2)) (a_cons (e_div (ev 1) (ev 2)) (a_nil)))))))
theorem sc_L_less : FnScope ["one", "other"] ["one", "other"] (defScope (topS 32)) := ⟨rfl, rfl, rfl, by decide +kernel, rfl, by decide +kernel, by decide +kernel⟩
theorem k_L_less {a : Addr} {fd : FuncData} (G : Gm K mg)   (F : FunD K "_law_less" "_law_less" (defArgs (topS 32)) (defBody (topS 32)) (defScope (topS 32)) [] [] a fd) (hg : mg "_law_less" = some (.ref a)) : FnI P w K mg base T 1 "_law_less" 2 m_L_less := by
  have nd := sc_L_less.nd
  refine def_ok (k := 0) 2 F sc_L_less rfl hg (fun _ _ _ _ _ _ us hl => match us, hl with | [_, _], _ => rfl) (fun cdv A outer s H E hr => ?_)
  exact ss_one (s_ret (e_cm (c_lt hr) (e_mul (e_ix (ev 0) (e_int) (fun _ _ => rfl)) (e_ix (ev 1) (e_int) (fun _ _ => rfl))) (e_mul (e_ix (ev 1) (e_int) (fun _ _ => rfl)) (e_ix (ev 0) (e_int) (fun _ _ => rfl))) (nomark _)))
theorem sc_L_web : FnScope ["more", "many", "lines", "one", "other", "here", "is_ring"] ["more"] (defScope (topS 33)) := ⟨rfl, rfl, rfl, by decide +kernel, rfl, by decide +kernel, by decide +kernel⟩
theorem k_L_web {a : Addr} {fd : FuncData} (G : Gm K mg) (F_L_drawn : FnI P w K mg base T 1 "_law_drawn" 2 m_L_drawn)  (F : FunD K "_law_web" "_law_web" (defArgs (topS 33)) (defBody (topS 33)) (defScope (topS 33)) [] [] a fd) (hg : mg "_law_web" = some (.ref a)) : FnI P w K mg base T 2 "_law_web" 1 m_L_web := by
  have nd := sc_L_web.nd
  refine def_ok (k := 1) 1 F sc_L_web rfl hg (fun _ _ _ _ _ _ us hl => match us, hl with | [_], _ => rfl) (fun cdv A outer s H E hr => ?_)
  exact ss_cons (s_st 1 nd (e_add (e_int) (e_mod (ev 0) (e_int)))) (ss_cons (s_so 2 nd (a_nil)) (ss_cons (s_for (p := .nm 3) (passes_of rfl) rfl (i_range1 rfl G.range (a_cons (ev 1) (a_nil))) (g_nm 3 nd) (ss_one (s_for (p := .nm 4) (passes_of rfl) rfl (i_range2 (pi_range2 rfl G.range (a_cons (e_add (ev 3) (e_int)) (a_cons (ev 1) (a_nil))))) (g_nm 4 nd) (ss_cons (s_st 5 nd (e_call F_L_drawn (hr.mono (by decide)) passE rfl (a_cons (ev 0) (a_cons (e_add (e_mul (e_int) (ev 3)) (ev 4)) (a_nil))))) (ss_cons (s_st 6 nd (e_or (e_cm (c_eq hr) (ev 4) (e_add (ev 3) (e_int)) (nomark _)) (e_one (e_and (e_cm (c_eq hr) (ev 3) (e_int) (nomark _)) (e_one (e_cm (c_eq hr) (ev 4) (e_sub (ev 1) (e_int)) (nomark _))))))) (ss_one (s_if (t_val (e_ix (e_lst (a_cons (e_cm (c_eq hr) (e_mod (ev 5) (e_int)) (e_int) (nomark _)) (a_cons (e_cm (c_eq hr) (e_mod (ev 5) (e_int)) (e_int) (nomark _)) (a_cons (e_cm (c_gt) (e_mod (ev 5) (e_int)) (e_int) (nomark _)) (a_cons (ev 6) (a_nil)))))) (e_mod (e_div (ev 0) (e_int)) (e_int)) (fun _ _ => rfl))) (ss_one (s_app (i := 2) (e_tup (a_cons (ev 3) (a_cons (ev 4) (a_nil)))))) (ss_nil)))))))) (ss_one (s_frz (i := 2) (s_ret (e_tup (a_cons (ev 1) (a_cons (ev 2) (a_nil)))))))))
theorem sc_L_lists : FnScope ["many", "found", "j", "longer", "one"] ["many"] (defScope (topS 34)) := ⟨rfl, rfl, rfl, by decide +kernel, rfl, by decide +kernel, by decide +kernel⟩
theorem k_L_lists {a : Addr} {fd : FuncData} (G : Gm K mg)   (F : FunD K "_law_lists" "_law_lists" (defArgs (topS 34)) (defBody (topS 34)) (defScope (topS 34)) [] [] a fd) (hg : mg "_law_lists" = some (.ref a)) : FnI P w K mg base T 1 "_law_lists" 1 m_L_lists := by
  have nd := sc_L_lists.nd
  refine def_ok (k := 0) 1 F sc_L_lists rfl hg (fun _ _ _ _ _ _ us hl => match us, hl with | [_], _ => rfl) (fun cdv A outer s H E hr => ?_)
  exact ss_cons (s_st 1 nd (e_lst (a_cons (e_lst (a_cons (e_int) (a_nil))) (a_nil)))) (ss_cons (s_for (p := .nm 2) (passes_of rfl) rfl (i_range1 rfl G.range (a_cons (e_sub (ev 0) (e_int)) (a_nil))) (g_nm 2 nd) (ss_cons (s_st 3 nd (e_lst (a_nil))) (ss_cons (s_for (p := .nm 4) (passes_of rfl) rfl (i_seq (ev 1)) (g_nm 4 nd) (ss_one (s_st 3 nd (e_add (ev 3) (e_lst (a_cons (e_add (ev 4) (e_lst (a_cons (e_int) (a_nil)))) (a_cons (e_add (ev 4) (e_lst (a_cons (e_int) (a_nil)))) (a_nil)))))))) (ss_one (s_st 1 nd (ev 3)))))) (ss_one (s_ret (ev 1))))
theorem sc_L_bad : FnScope ["lines", "halves", "one", "other"] ["lines", "halves"] (defScope (topS 35)) := ⟨rfl, rfl, rfl, by decide +kernel, rfl, by decide +kernel, by decide +kernel⟩
theorem k_L_bad {a : Addr} {fd : FuncData} (G : Gm K mg)   (F : FunD K "_law_bad" "_law_bad" (defArgs (topS 35)) (defBody (topS 35)) (defScope (topS 35)) [] [] a fd) (hg : mg "_law_bad" = some (.ref a)) : FnI P w K mg base T 1 "_law_bad" 2 m_L_bad := by
  have nd := sc_L_bad.nd
  refine def_ok (k := 0) 2 F sc_L_bad rfl hg (fun _ _ _ _ _ _ us hl => match us, hl with | [_, _], _ => rfl) (fun cdv A outer s H E hr => ?_)
  exact ss_one (s_ret (e_bt (b_len G.len) rfl (a_cons (e_lc [("one", 2), ("other", 3)] (.tp [2, 3]) rfl nd (i_c (i_seq (ev 0))) (blkOk_by (by kernel_rfl)) (fun _ _ _ _ _ => pg_tup rfl (pgs_cons (g_nm 2 nd) (pgs_cons (g_nm 3 nd) (pgs_nil)))) (fun _ _ _ _ _ => ts_one (t_cm (c_eq hr) (e_ix (ev 1) (ev 2) (fun _ _ => rfl)) (e_ix (ev 1) (ev 3) (fun _ _ => rfl)) (nomark _))) (fun _ _ _ _ _ => ev 2)) (a_nil))))
theorem sc_L_choices : FnScope ["many", "here", "found", "node", "one"] ["many", "here"] (defScope (topS 36)) := ⟨rfl, rfl, rfl, by decide +kernel, rfl, by decide +kernel, by decide +kernel⟩
theorem k_L_choices {a : Addr} {fd : FuncData} (G : Gm K mg)   (F : FunD K "_law_choices" "_law_choices" (defArgs (topS 36)) (defBody (topS 36)) (defScope (topS 36)) [] [] a fd) (hg : mg "_law_choices" = some (.ref a)) : FnI P w K mg base T 1 "_law_choices" 2 m_L_choices := by
  have nd := sc_L_choices.nd
  refine def_ok (k := 0) 2 F sc_L_choices rfl hg (fun _ _ _ _ _ _ us hl => match us, hl with | [_, _], _ => rfl) (fun cdv A outer s H E hr => ?_)
  exact ss_cons (s_st 2 nd (e_lst (a_cons (e_lst (a_nil)) (a_nil)))) (ss_cons (s_for (p := .nm 3) (passes_of rfl) rfl (i_range1 rfl G.range (a_cons (ev 0) (a_nil))) (g_nm 3 nd) (ss_one (s_st 2 nd (e_add (ev 2) (e_lc [("one", 4)] (.nm 4) rfl nd (i_c (i_seq (ev 2))) (blkOk_by (by kernel_rfl)) (fun _ _ _ _ _ => g_nm 4 nd) (fun _ _ _ _ _ => ts_nil) (fun _ _ _ _ _ => e_add (ev 4) (e_lst (a_cons (ev 3) (a_nil))))))))) (ss_one (s_ret (e_lc [("one", 4)] (.nm 4) rfl nd (i_c (i_seq (ev 2))) (blkOk_by (by kernel_rfl)) (fun _ _ _ _ _ => g_nm 4 nd) (fun _ _ _ _ _ => ts_one (t_cm (c_eq hr) (e_bt (b_len G.len) rfl (a_cons (ev 4) (a_nil))) (ev 1) (nomark _))) (fun _ _ _ _ _ => ev 4)))))
theorem sc_L_is_so : FnScope ["lines", "nodes", "row", "halves", "line", "one", "other"] ["lines", "nodes"] (defScope (topS 37)) := ⟨rfl, rfl, rfl, by decide +kernel, rfl, by decide +kernel, by decide +kernel⟩
theorem k_L_is_so {a : Addr} {fd : FuncData} (G : Gm K mg) (F_L_lists : FnI P w K mg base T 1 "_law_lists" 1 m_L_lists)  (F : FunD K "_law_is_so" "_law_is_so" (defArgs (topS 37)) (defBody (topS 37)) (defScope (topS 37)) [] [] a fd) (hg : mg "_law_is_so" = some (.ref a)) : FnI P w K mg base T 2 "_law_is_so" 2 m_L_is_so := by
  have nd := sc_L_is_so.nd
  refine def_ok (k := 1) 2 F sc_L_is_so rfl hg (fun _ _ _ _ _ _ us hl => match us, hl with | [_, _], _ => rfl) (fun cdv A outer s H E hr => ?_)
  exact ss_cons (s_setLc [("line", 4)] (.nm 4) (i := 2) rfl nd rfl rfl (sw_true rfl rfl rfl (by kernel_rfl)) (i_c (i_seq (ev 0))) (blkOk_by (by kernel_rfl)) (fun _ _ _ _ _ => g_nm 4 nd) (fun _ _ _ _ _ => ts_one (t_w (w_and (t_cm (c_in hr) (e_ix (ev 4) (e_int) (fun _ _ => rfl)) (ev 1)) (w_and1 (t_cm (c_in hr) (e_ix (ev 4) (e_int) (fun _ _ => rfl)) (ev 1)))))) (fun _ _ _ _ _ => ev 4)) (ss_cons (s_if (t_cm (c_eq hr) (ev 1) (e_lst (a_nil)) (nomark _)) (ss_one (s_ret (e_bl))) (ss_nil)) (ss_cons (s_for (p := .nm 3) (passes_of rfl) rfl (i_seq (e_call F_L_lists (hr.mono (by decide)) passE rfl (a_cons (e_bt (b_len G.len) rfl (a_cons (ev 1) (a_nil))) (a_nil)))) (g_nm 3 nd) (ss_one (s_if (t_not (t_val (e_bt (b_any rfl G.any) rfl (a_cons (e_lc [("one", 5), ("other", 6)] (.tp [5, 6]) rfl nd (i_c (i_seq (ev 2))) (blkOk_by (by kernel_rfl)) (fun _ _ _ _ _ => pg_tup rfl (pgs_cons (g_nm 5 nd) (pgs_cons (g_nm 6 nd) (pgs_nil)))) (fun _ _ _ _ _ => ts_nil) (fun _ _ _ _ _ => e_cm (c_eq hr) (e_ix (ev 3) (e_index (ev 1) (ev 5)) (fun _ _ => rfl)) (e_ix (ev 3) (e_index (ev 1) (ev 6)) (fun _ _ => rfl)) (nomark _))) (a_nil))))) (ss_one (s_ret (e_bl))) (ss_nil)))) (ss_one (s_ret (e_bl)))))
theorem sc_law : FnScope ["script", "k", "more", "web", "many", "lines", "kept", "row", "counts", "shares", "here", "found", "some", "bad", "odd", "halves", "nodes", "deed"] ["script"] (defScope (topS 38)) := ⟨rfl, rfl, rfl, by decide +kernel, rfl, by decide +kernel, by decide +kernel⟩
theorem k_law {fd : FuncData} (G : Gm K mg) (TD : Told P w K mg base T ns "LookError" "_law_told" "_law_word" "deed" "e" 0) (LI : LamI K mg base T "law") (F_halves_of : FnI P w K mg base T 4 "halves_of" 1 m_halves_of) (F_far_halves : FnI P w K mg base T 5 "far_halves" 1 m_far_halves) (F_by_nodes : FnI P w K mg base T 4 "by_nodes" 2 m_by_nodes) (F_L_cell : FnI P w K mg base T 1 "_law_cell" 2 m_L_cell) (F_L_drawn : FnI P w K mg base T 1 "_law_drawn" 2 m_L_drawn) (F_L_made : FnI P w K mg base T 1 "_law_made" 2 m_L_made) (F_L_less : FnI P w K mg base T 1 "_law_less" 2 m_L_less) (F_L_web : FnI P w K mg base T 2 "_law_web" 1 m_L_web) (F_L_lists : FnI P w K mg base T 1 "_law_lists" 1 m_L_lists) (F_L_bad : FnI P w K mg base T 1 "_law_bad" 2 m_L_bad) (F_L_choices : FnI P w K mg base T 1 "_law_choices" 2 m_L_choices) (F_L_is_so : FnI P w K mg base T 2 "_law_is_so" 2 m_L_is_so) {a_far_halves : Addr} (g_far_halves : mg "far_halves" = some (.ref a_far_halves)) {a_halves_of : Addr} (g_halves_of : mg "halves_of" = some (.ref a_halves_of)) (F : FunD K "law" "law" (defArgs (topS 38)) (defBody (topS 38)) (defScope (topS 38)) [] [] (He.ga K "law") fd) : FnOk P w K mg base (L2N.CX P w) 8 (He.ga K "law") fd ["script"] (spOf K mg T 1 m_law) := by
  have nd := sc_law.nd
  refine def_okF (k := 7) 1 F sc_law rfl (fun cdv A outer s H E hcd hr => ?_)
  exact ss_cons (s_for (p := .nm 1) (passes_of rfl) rfl (i_range1 rfl G.range (a_cons (e_bt (b_max2 rfl G.max) rfl (a_cons (e_int) (a_cons (e_bt (b_min2 rfl G.min) rfl (a_cons (e_int) (a_cons (e_bt (b_len G.len) rfl (a_cons (ev 0) (a_nil))) (a_nil)))) (a_nil)))) (a_nil))) (g_nm 1 nd) (ss_cons (s_st 2 nd (e_call F_L_drawn (hr.mono (by decide)) passE rfl (a_cons (e_call F_L_cell (hr.mono (by decide)) passE rfl (a_cons (ev 0) (a_cons (ev 1) (a_nil)))) (a_cons (ev 1) (a_nil))))) (ss_cons (s_st 3 nd (e_call F_L_web (hr.mono (by decide)) passE rfl (a_cons (ev 2) (a_nil)))) (ss_cons (s_tup (p := .tp [4, 5]) (ps_asg (ev 3) (pg_tup rfl (pgs_cons (g_nm 4 nd) (pgs_cons (g_nm 5 nd) (pgs_nil)))))) (ss_cons (s_st 6 nd (e_bt (b_list G.list) rfl (a_cons (ev 5) (a_nil)))) (ss_cons (s_st 7 nd (e_call F_L_lists (hr.mono (by decide)) passE rfl (a_cons (ev 4) (a_nil)))) (ss_cons (s_setLc [("halves", 15)] (.nm 15) (i := 8) rfl nd rfl rfl (sw_true rfl rfl rfl (by kernel_rfl)) (i_c (i_seq (ev 7))) (blkOk_by (by kernel_rfl)) (fun _ _ _ _ _ => g_nm 15 nd) (fun _ _ _ _ _ => ts_nil) (fun _ _ _ _ _ => e_call F_L_bad (hr.mono (by decide)) passN rfl (a_cons (ev 5) (a_cons (ev 15) (a_nil))))) (ss_cons (s_if (t_cm (c_ne hr) (e_td (k := 5) TD LI hcd rfl hr (by decide) (lamS_by (by kernel_rfl)) rfl rfl (fun _ _ _ _ _ => rfl) (fun A outer s H E f c hr => e_call F_far_halves (hr.mono (by decide)) passLam rfl (a_cons (ev 3) (a_nil)))) (e_bt (b_min rfl G.min) rfl (a_cons (ev 8) (a_nil))) (nomark _)) (ss_one (s_ret (e_bl))) (ss_nil)) (ss_cons (s_if (t_cm (c_ne hr) (e_td (k := 5) TD LI hcd rfl hr (by decide) (lamS_by (by kernel_rfl)) rfl rfl (fun _ _ _ _ _ => rfl) (fun A outer s H E f c hr => e_call F_halves_of (hr.mono (by decide)) passLam rfl (a_cons (ev 3) (a_nil)))) (e_ix (ev 7) (e_index (ev 8) (e_bt (b_min rfl G.min) rfl (a_cons (ev 8) (a_nil)))) (fun _ _ => rfl)) (nomark _)) (ss_one (s_ret (e_bl))) (ss_nil)) (ss_cons (s_setLc [("here", 10)] (.nm 10) (i := 9) rfl nd rfl rfl (sw_true rfl rfl rfl (by kernel_rfl)) (i_c (i_range1 rfl G.range (a_cons (e_add (ev 4) (e_int)) (a_nil)))) (blkOk_by (by kernel_rfl)) (fun _ _ _ _ _ => g_nm 10 nd) (fun _ _ _ _ _ => ts_nil) (fun _ _ _ _ _ => e_td (k := 5) TD LI hcd rfl hr (by decide) (lamS_by (by kernel_rfl)) rfl rfl (fun _ _ _ _ _ => rfl) (fun A outer s H E f c hr => e_call F_by_nodes (hr.mono (by decide)) passLam rfl (a_cons (ev 3) (a_cons (ev 10) (a_nil)))))) (ss_cons (s_if (t_cm (c_ne hr) (e_bt (b_list G.list) rfl (a_cons (ev 5) (a_nil))) (ev 6) (nomark _)) (ss_one (s_ret (e_bl))) (ss_nil)) (ss_cons (s_for (p := .tp [10, 11]) (passes_of rfl) rfl (i_enum rfl G.enumerate (a_cons (ev 9) (a_nil))) (pg_tup rfl (pgs_cons (g_nm 10 nd) (pgs_cons (g_nm 11 nd) (pgs_nil)))) (ss_cons (s_st 12 nd (e_call F_L_choices (hr.mono (by decide)) passE rfl (a_cons (ev 4) (a_cons (ev 10) (a_nil))))) (ss_cons (s_if (t_cm (c_ne hr) (ev 11) (e_call F_L_made (hr.mono (by decide)) passE rfl (a_cons (e_bt (b_len G.len) rfl (a_cons (e_lc [("nodes", 16)] (.nm 16) rfl nd (i_c (i_seq (ev 12))) (blkOk_by (by kernel_rfl)) (fun _ _ _ _ _ => g_nm 16 nd) (fun _ _ _ _ _ => ts_one (t_not (t_val (e_call F_L_is_so (hr.mono (by decide)) passN rfl (a_cons (ev 5) (a_cons (ev 16) (a_nil))))))) (fun _ _ _ _ _ => ev 16)) (a_nil))) (a_cons (e_bt (b_len G.len) rfl (a_cons (ev 12) (a_nil))) (a_nil)))) (nomark _)) (ss_one (s_ret (e_bl))) (ss_nil)) (ss_one (s_if (t_w (w_and (t_cm (c_gt) (ev 10) (e_int) (nomark _)) (w_and1 (t_val (e_call F_L_less (hr.mono (by decide)) passE rfl (a_cons (ev 11) (a_cons (e_ix (ev 9) (e_sub (ev 10) (e_int)) (fun _ _ => rfl)) (a_nil)))))))) (ss_one (s_ret (e_bl))) (ss_nil)))))) (ss_cons (s_st 13 nd (e_lst (a_cons (e_tup (a_cons (e_int) (a_cons (e_lst (a_nil)) (a_nil)))) (a_cons (e_tup (a_cons (e_int) (a_cons (e_lst (a_nil)) (a_nil)))) (a_cons (e_tup (a_cons (ev 4) (a_cons (e_lst (a_cons (e_tup (a_cons (e_int) (a_cons (e_int) (a_nil)))) (a_nil))) (a_nil)))) (a_cons (e_tup (a_cons (ev 4) (a_cons (e_lst (a_cons (e_tup (a_cons (e_int) (a_cons (e_int) (a_nil)))) (a_nil))) (a_nil)))) (a_cons (e_tup (a_cons (ev 4) (a_cons (e_lst (a_cons (e_tup (a_cons (e_int) (a_cons (ev 4) (a_nil)))) (a_nil))) (a_nil)))) (a_nil)))))))) (ss_cons (s_st 13 nd (e_add (ev 13) (e_lst (a_cons (e_tup (a_cons (ev 4) (a_cons (e_lst (a_cons (e_lst (a_cons (e_int) (a_cons (e_int) (a_nil)))) (a_nil))) (a_nil)))) (a_cons (e_tup (a_cons (ev 4) (a_cons (e_non) (a_nil)))) (a_nil)))))) (ss_cons (s_st 13 nd (e_add (ev 13) (e_lst (a_cons (e_tup (a_cons (e_int) (a_cons (e_lst (a_cons (e_tup (a_cons (e_int) (a_cons (e_int) (a_nil)))) (a_cons (e_tup (a_cons (e_int) (a_cons (e_int) (a_nil)))) (a_nil)))) (a_nil)))) (a_cons (e_tup (a_cons (e_int) (a_cons (e_lst (a_cons (e_tup (a_cons (e_int) (a_cons (e_int) (a_nil)))) (a_cons (e_tup (a_cons (e_int) (a_cons (e_int) (a_nil)))) (a_nil)))) (a_nil)))) (a_cons (e_tup (a_cons (ev 4) (a_cons (e_lst (a_cons (e_tup (a_cons (e_int) (a_cons (e_bl) (a_nil)))) (a_nil))) (a_nil)))) (a_nil))))))) (ss_cons (s_st 13 nd (e_add (ev 13) (e_lst (a_cons (e_tup (a_cons (e_int) (a_cons (e_lst (a_cons (e_tup (a_cons (e_int) (a_cons (e_int) (a_cons (e_int) (a_nil))))) (a_nil))) (a_nil)))) (a_cons (e_tup (a_cons (ev 4) (a_cons (e_lst (a_cons (e_tup (a_cons (e_neg (e_int)) (a_cons (e_int) (a_nil)))) (a_nil))) (a_nil)))) (a_nil)))))) (ss_cons (s_st 14 nd (e_ix (ev 13) (e_mod (e_div (ev 2) (e_pow (e_int) (e_int))) (e_int)) (fun _ _ => rfl))) (ss_cons (s_if (t_cm (c_ne hr) (e_lc [("deed", 17)] (.nm 17) rfl nd (i_c (i_seq (e_lst (a_cons (e_fn g_far_halves rfl) (a_cons (e_fn g_halves_of rfl) (a_nil)))))) (blkOk_by (by kernel_rfl)) (fun _ _ _ _ _ => g_nm 17 nd) (fun _ _ _ _ _ => ts_nil) (fun _ _ _ _ _ => e_td (k := 5) TD LI hcd rfl hr (by decide) (lamS_by (by kernel_rfl)) rfl rfl (fun _ _ _ _ _ => rfl) (fun A outer s H E f c hr => e_callV (k := 5) 17 (fa_cons (F_far_halves.mono (by decide)) (fa_cons (F_halves_of.mono (by decide)) (fa_nil))) hr passLam (a_cons (ev 14) (a_nil))))) (e_lst (a_cons (e_str) (a_cons (e_str) (a_nil)))) (nomark _)) (ss_one (s_ret (e_bl))) (ss_nil)) (ss_cons (s_if (t_cm (c_ne hr) (e_td (k := 5) TD LI hcd rfl hr (by decide) (lamS_by (by kernel_rfl)) rfl rfl (fun _ _ _ _ _ => rfl) (fun A outer s H E f c hr => e_call F_by_nodes (hr.mono (by decide)) passLam rfl (a_cons (ev 14) (a_cons (e_neg (e_int)) (a_nil))))) (e_str) (nomark _)) (ss_one (s_ret (e_bl))) (ss_nil)) (ss_one (s_if (t_cm (c_ne hr) (e_lc [("here", 10)] (.nm 10) rfl nd (i_c (i_seq (e_lst (a_cons (e_neg (e_int)) (a_cons (e_add (ev 4) (e_int)) (a_nil)))))) (blkOk_by (by kernel_rfl)) (fun _ _ _ _ _ => g_nm 10 nd) (fun _ _ _ _ _ => ts_nil) (fun _ _ _ _ _ => e_td (k := 5) TD LI hcd rfl hr (by decide) (lamS_by (by kernel_rfl)) rfl rfl (fun _ _ _ _ _ => rfl) (fun A outer s H E f c hr => e_call F_by_nodes (hr.mono (by decide)) passLam rfl (a_cons (ev 3) (a_cons (ev 10) (a_nil)))))) (e_lst (a_cons (e_str) (a_cons (e_str) (a_nil)))) (nomark _)) (ss_one (s_ret (e_bl))) (ss_nil)))))))))))))))))))))) (ss_one (s_ret (e_bl)))
end
end K70
set_option Elab.async false
set_option linter.all false
set_option maxRecDepth 100000
set_option maxHeartbeats 4000000
namespace K70
open PySem PySem.Spec PyProof.Rows L2 LamX FL
/-! ### the draw -/
theorem cell_val (ns : List Int) (k : Nat) (hk : k < 64) (hl : ns.length ≤ 63) : ∃ i, m_L_cell [.scr ns, .int (k : Nat)] = .ok (.int i) := by
  by_cases h : ns = []
  · subst h
    refine ⟨(k : Int) * 7919, ?_⟩
    have e1 : dEq (.scr []) (.lst []) = .ok (.bl true) := rfl
    have e2 : dMul (.int (k : Nat)) (.int 7919) = .ok (.int ((k : Int) * 7919)) := dMul_r (by decide)
    simp only [m_L_cell, defM, sSeq, sSet, sIf, sRet, sDrop, sOwn, sApp, sExtd, sFrz, sPar, sTup, sFor, bindP, setAll, sRaise, sNext, SO.ofO, SO.ofB, SO.ofA, FL.mN, mCons, mNil, mVar, mC, FL.c1, FL.c2, FL.m1, FL.m2, Out.bind, arg, frzE, ownAt, mT, toB, tAndM, tOrM, tNotM, tYesM, mIf, mAnd, mOr, dNot, mSl, oNone, oSome, mI, mItems, items, mOIx, mOItems, mL, List.map_cons, List.map_nil, List.replicate, List.cons_append, List.nil_append, List.getElem?_cons_zero, List.getElem?_cons_succ, List.set_cons_succ, List.set_cons_zero, List.length_cons, List.length_nil, Nat.zero_add, Nat.reduceAdd, if_true, reduceCtorEq, wipeE, reduceIte, Bool.not_true, Bool.not_false, Bool.false_eq_true, dLst, LIM, Nat.zero_le, e1, e2]
  · have hp : 0 < ns.length := List.length_pos_iff.mpr h
    refine ⟨ns.getD (k % ns.length) 0 + (k : Int) / (ns.length : Nat) * 104729, ?_⟩
    have e1 : dEq (.scr ns) (.lst []) = .ok (.bl false) := by
      unfold dEq
      rw [if_pos (by rfl), eqv_scr_nil, decide_eq_false h]
    have e2 : dMod (.int (k : Nat)) (.int (ns.length : Nat)) = .ok (.int ((k % ns.length : Nat) : Int)) := by
      rw [dMod_ok (by omega)]
      rfl
    have e3 := dIx_scr (row := ns) (j := k % ns.length) (Nat.mod_lt _ hp)
    have e4 : dDiv (.int (k : Nat)) (.int (ns.length : Nat)) = .ok (.int ((k : Int) / (ns.length : Nat))) := dDiv_64 (by omega) (by omega)
    have e5 : dMul (.int ((k : Int) / (ns.length : Nat))) (.int 104729) = .ok (.int ((k : Int) / (ns.length : Nat) * 104729)) := dMul_r (by decide)
    simp only [m_L_cell, defM, sSeq, sSet, sIf, sRet, sDrop, sOwn, sApp, sExtd, sFrz, sPar, sTup, sFor, bindP, setAll, sRaise, sNext, SO.ofO, SO.ofB, SO.ofA, FL.mN, mCons, mNil, mVar, mC, FL.c1, FL.c2, FL.m1, FL.m2, Out.bind, arg, frzE, ownAt, mT, toB, tAndM, tOrM, tNotM, tYesM, mIf, mAnd, mOr, dNot, mSl, oNone, oSome, mI, mItems, items, mOIx, mOItems, mL, List.map_cons, List.map_nil, List.replicate, List.cons_append, List.nil_append, List.getElem?_cons_zero, List.getElem?_cons_succ, List.set_cons_succ, List.set_cons_zero, List.length_cons, List.length_nil, Nat.zero_add, Nat.reduceAdd, if_true, reduceCtorEq, wipeE, reduceIte, Bool.not_true, Bool.not_false, Bool.false_eq_true, dLst, LIM, Nat.zero_le, e1, e2, e3, e4, e5, dLen_scr, dAdd_int]
theorem drawn_val (c k : Int) (hk0 : 0 ≤ k) (hk : k < 1000000) : ∃ i, m_L_drawn [.int c, .int k] = .ok (.int i) ∧ 0 ≤ i ∧ i < 340282366920938463463374607431768211507 := by
  obtain ⟨x1, h1⟩ : ∃ x, x = (c * 6364136223846793005 + (k + 1) * 1442695040888963407) % 340282366920938463463374607431768211507 := ⟨_, rfl⟩
  have b1 : 0 ≤ x1 ∧ x1 < 340282366920938463463374607431768211507 := by omega
  obtain ⟨x2, h2⟩ : ∃ x, x = (x1 * x1) % 340282366920938463463374607431768211297 := ⟨_, rfl⟩
  have b2 : 0 ≤ x2 ∧ x2 < 340282366920938463463374607431768211297 := by omega
  have e1 : dMul (.int c) (.int 6364136223846793005) = .ok (.int (c * 6364136223846793005)) := dMul_r (by decide)
  have e2 : dMul (.int (k + 1)) (.int 1442695040888963407) = .ok (.int ((k + 1) * 1442695040888963407)) := dMul_r (by decide)
  have e3 : dMod (.int (c * 6364136223846793005 + (k + 1) * 1442695040888963407)) (.int 340282366920938463463374607431768211507) = .ok (.int x1) := by
    rw [dMod_ok (by decide), h1]
  have big : ((340282366920938463463374607431768211507 * 340282366920938463463374607431768211507 : Nat) : Int) ≤ 2 ^ 4000 := by
    have : (340282366920938463463374607431768211507 * 340282366920938463463374607431768211507 : Nat) ≤ 2 ^ 4000 := Nat.le_trans (by decide : _ ≤ 2 ^ 250 * 2 ^ 250) (by rw [← Nat.pow_add]; exact Nat.pow_le_pow_right (by decide) (by decide))
    exact_mod_cast this
  have sm : ∀ x : Int, 0 ≤ x → x < 340282366920938463463374607431768211507 * 340282366920938463463374607431768211507 → small x = true := fun x h0 h => small_lt (by
    have : (0 : Int) < 2 ^ 4000 := Int.pow_pos (by decide)
    omega) (by
    generalize (2 : Int) ^ 4000 = p at big
    omega)
  have s1 : small x1 = true := sm x1 b1.1 (by omega)
  have s2 : small x2 = true := sm x2 b2.1 (by omega)
  have e4 : dMul (.int x1) (.int x1) = .ok (.int (x1 * x1)) := dMul_s s1 s1
  have e5 : dMod (.int (x1 * x1)) (.int 340282366920938463463374607431768211297) = .ok (.int x2) := by
    rw [dMod_ok (by decide), h2]
  have e6 : dMod (.int x2) (.int 18446744073709551557) = .ok (.int (x2 % 18446744073709551557)) := dMod_ok (by decide)
  have e7 : dDiv (.int x2) (.int 18446744073709551557) = .ok (.int (x2 / 18446744073709551557)) := dDiv_64 (by decide) (by decide)
  have b3 : 0 ≤ x2 % 18446744073709551557 + 1 ∧ x2 % 18446744073709551557 + 1 < 18446744073709551616 := by omega
  have b4 : 0 ≤ x2 / 18446744073709551557 + 1 ∧ x2 / 18446744073709551557 + 1 < 36893488147419103232 := by omega
  have e8 : dMul (.int (x2 % 18446744073709551557 + 1)) (.int (x2 / 18446744073709551557 + 1)) = .ok (.int ((x2 % 18446744073709551557 + 1) * (x2 / 18446744073709551557 + 1))) := dMul_l (by omega)
  have b5 : (x2 % 18446744073709551557 + 1) * (x2 / 18446744073709551557 + 1) ≤ 18446744073709551616 * 36893488147419103232 := Int.mul_le_mul (by omega) (by omega) b4.1 (by decide)
  have b6 : 0 ≤ (x2 % 18446744073709551557 + 1) * (x2 / 18446744073709551557 + 1) := Int.mul_nonneg b3.1 b4.1
  have e9 : dMul (.int ((x2 % 18446744073709551557 + 1) * (x2 / 18446744073709551557 + 1))) (.int x2) = .ok (.int ((x2 % 18446744073709551557 + 1) * (x2 / 18446744073709551557 + 1) * x2)) := dMul_s (sm _ b6 (by omega)) s2
  refine ⟨((x2 % 18446744073709551557 + 1) * (x2 / 18446744073709551557 + 1) * x2) % 340282366920938463463374607431768211507, ?_, ?_⟩
  · have e10 : dMod (.int ((x2 % 18446744073709551557 + 1) * (x2 / 18446744073709551557 + 1) * x2)) (.int 340282366920938463463374607431768211507) = .ok (.int (((x2 % 18446744073709551557 + 1) * (x2 / 18446744073709551557 + 1) * x2) % 340282366920938463463374607431768211507)) := dMod_ok (by decide)
    simp only [m_L_drawn, defM, sSeq, sSet, sIf, sRet, sDrop, sOwn, sApp, sExtd, sFrz, sPar, sTup, sFor, bindP, setAll, sRaise, sNext, SO.ofO, SO.ofB, SO.ofA, FL.mN, mCons, mNil, mVar, mC, FL.c1, FL.c2, FL.m1, FL.m2, Out.bind, arg, frzE, ownAt, mT, toB, tAndM, tOrM, tNotM, tYesM, mIf, mAnd, mOr, dNot, mSl, oNone, oSome, mI, mItems, items, mOIx, mOItems, mL, List.map_cons, List.map_nil, List.replicate, List.cons_append, List.nil_append, List.getElem?_cons_zero, List.getElem?_cons_succ, List.set_cons_succ, List.set_cons_zero, List.length_cons, List.length_nil, Nat.zero_add, Nat.reduceAdd, if_true, reduceCtorEq, wipeE, reduceIte, Bool.not_true, Bool.not_false, Bool.false_eq_true, dAdd_int, e1, e2, e3, e4, e5, e6, e7, e8, e9, e10]
  · omega

/-! ### the fraction -/
theorem gcd_loop (t u : Int) : ∀ (n a b : Nat), b ≤ n → ∃ z, sWhile (mT (m2 dGt (mVar 3) (mC (.int 0)))) (sPar 2 3 (mCons (mVar 3) (mCons (m2 dMod (mVar 2) (mVar 3)) (mNil)))) [some (.dat (.int t)), some (.dat (.int u)), some (.dat (.int (a : Nat))), some (.dat (.int (b : Nat)))] = .nx [some (.dat (.int t)), some (.dat (.int u)), some (.dat (.int (Nat.gcd a b : Nat))), z]
  | n, a, 0, _ => by
    refine ⟨some (.dat (.int ((0 : Nat) : Int))), sWhile_done ?_⟩
    have e : dGt (.int ((0 : Nat) : Int)) (.int 0) = .ok (.bl false) := rfl
    simp only [wStep, sSeq, sSet, sIf, sRet, sDrop, sOwn, sApp, sExtd, sFrz, sPar, sTup, sFor, bindP, setAll, sRaise, sNext, SO.ofO, SO.ofB, SO.ofA, FL.mN, mCons, mNil, mVar, mC, FL.c1, FL.c2, FL.m1, FL.m2, Out.bind, arg, frzE, ownAt, mT, toB, tAndM, tOrM, tNotM, tYesM, mIf, mAnd, mOr, dNot, mSl, oNone, oSome, mI, mItems, items, mOIx, mOItems, mL, List.map_cons, List.map_nil, List.replicate, List.cons_append, List.nil_append, List.getElem?_cons_zero, List.getElem?_cons_succ, List.set_cons_succ, List.set_cons_zero, List.length_cons, List.length_nil, Nat.zero_add, Nat.reduceAdd, if_true, reduceCtorEq, wipeE, reduceIte, Bool.not_true, Bool.not_false, Bool.false_eq_true, e, Nat.gcd_zero_right]
  | 0, a, b + 1, h => absurd h (by omega)
  | n + 1, a, b + 1, h => by
    obtain ⟨z, ih⟩ := gcd_loop t u n (b + 1) (a % (b + 1)) (by have := Nat.mod_lt a (show b + 1 > 0 by omega); omega)
    refine ⟨z, (sWhile_step (Γ' := [some (.dat (.int t)), some (.dat (.int u)), some (.dat (.int ((b + 1 : Nat) : Int))), some (.dat (.int ((a % (b + 1) : Nat) : Int)))]) ?_).trans ?_⟩
    · have e : dGt (.int ((b + 1 : Nat) : Int)) (.int 0) = .ok (.bl true) := by
        rw [dGt_int, decide_eq_true (by omega)]
      have e2 : dMod (.int (a : Nat)) (.int ((b + 1 : Nat) : Int)) = .ok (.int ((a % (b + 1) : Nat) : Int)) := by
        rw [dMod_ok (by omega)]
        rfl
      simp only [wStep, sSeq, sSet, sIf, sRet, sDrop, sOwn, sApp, sExtd, sFrz, sPar, sTup, sFor, bindP, setAll, sRaise, sNext, SO.ofO, SO.ofB, SO.ofA, FL.mN, mCons, mNil, mVar, mC, FL.c1, FL.c2, FL.m1, FL.m2, Out.bind, arg, frzE, ownAt, mT, toB, tAndM, tOrM, tNotM, tYesM, mIf, mAnd, mOr, dNot, mSl, oNone, oSome, mI, mItems, items, mOIx, mOItems, mL, List.map_cons, List.map_nil, List.replicate, List.cons_append, List.nil_append, List.getElem?_cons_zero, List.getElem?_cons_succ, List.set_cons_succ, List.set_cons_zero, List.length_cons, List.length_nil, Nat.zero_add, Nat.reduceAdd, if_true, reduceCtorEq, wipeE, reduceIte, Bool.not_true, Bool.not_false, Bool.false_eq_true, e, e2]
    · rw [ih, Nat.gcd_comm a (b + 1), Nat.gcd_rec (b + 1) a, Nat.gcd_comm]
theorem fraction_val (t u : Nat) (hu : 0 < u) (hu2 : u < 18446744073709551616) : m_fraction [.int (t : Nat), .int (u : Nat)] = .ok (.tup [.int ((t / Nat.gcd t u : Nat) : Int), .int ((u / Nat.gcd t u : Nat) : Int)]) := by
  obtain ⟨z, hz⟩ := gcd_loop t u u t u (Nat.le_refl _)
  have hg : 0 < Nat.gcd t u := Nat.gcd_pos_of_pos_right _ hu
  have hg2 : Nat.gcd t u ≤ u := Nat.gcd_le_right _ hu
  have e0 : dAbs (.int (t : Nat)) = .ok (.int (t : Nat)) := by
    show Out.ok (D.int (if (t : Int) < 0 then -(t : Int) else t)) = _
    rw [if_neg (by omega)]
  have e1 : dDiv (.int (t : Nat)) (.int (Nat.gcd t u : Nat)) = .ok (.int ((t / Nat.gcd t u : Nat) : Int)) := by
    rw [dDiv_64 (by omega) (by omega)]
    rfl
  have e2 : dDiv (.int (u : Nat)) (.int (Nat.gcd t u : Nat)) = .ok (.int ((u / Nat.gcd t u : Nat) : Int)) := by
    rw [dDiv_64 (by omega) (by omega)]
    rfl
  unfold m_fraction defM
  rw [sSeq_nx (Γ' := [some (.dat (.int (t : Nat))), some (.dat (.int (u : Nat))), some (.dat (.int (t : Nat))), some (.dat (.int (u : Nat)))]) (by simp only [sSeq, sSet, sIf, sRet, sDrop, sOwn, sApp, sExtd, sFrz, sPar, sTup, sFor, bindP, setAll, sRaise, sNext, SO.ofO, SO.ofB, SO.ofA, FL.mN, mCons, mNil, mVar, mC, FL.c1, FL.c2, FL.m1, FL.m2, Out.bind, arg, frzE, ownAt, mT, toB, tAndM, tOrM, tNotM, tYesM, mIf, mAnd, mOr, dNot, mSl, oNone, oSome, mI, mItems, items, mOIx, mOItems, mL, List.map_cons, List.map_nil, List.replicate, List.cons_append, List.nil_append, List.getElem?_cons_zero, List.getElem?_cons_succ, List.set_cons_succ, List.set_cons_zero, List.length_cons, List.length_nil, Nat.zero_add, Nat.reduceAdd, if_true, reduceCtorEq, wipeE, reduceIte, Bool.not_true, Bool.not_false, Bool.false_eq_true, e0]), sSeq_nx hz]
  simp only [sSeq, sSet, sIf, sRet, sDrop, sOwn, sApp, sExtd, sFrz, sPar, sTup, sFor, bindP, setAll, sRaise, sNext, SO.ofO, SO.ofB, SO.ofA, FL.mN, mCons, mNil, mVar, mC, FL.c1, FL.c2, FL.m1, FL.m2, Out.bind, arg, frzE, ownAt, mT, toB, tAndM, tOrM, tNotM, tYesM, mIf, mAnd, mOr, dNot, mSl, oNone, oSome, mI, mItems, items, mOIx, mOItems, mL, List.map_cons, List.map_nil, List.replicate, List.cons_append, List.nil_append, List.getElem?_cons_zero, List.getElem?_cons_succ, List.set_cons_succ, List.set_cons_zero, List.length_cons, List.length_nil, Nat.zero_add, Nat.reduceAdd, if_true, reduceCtorEq, wipeE, reduceIte, Bool.not_true, Bool.not_false, Bool.false_eq_true, e1, e2, dTup, LIM, Nat.reduceLeDiff]
theorem made_val (t u : Nat) (hu : 0 < u) (hu2 : u < 18446744073709551616) : m_L_made [.int (t : Nat), .int (u : Nat)] = .ok (.tup [.int ((t / Nat.gcd t u : Nat) : Int), .int ((u / Nat.gcd t u : Nat) : Int)]) := fraction_val t u hu hu2

theorem times_val (n t0 : Nat) (h : 1 ≤ t0) : ∃ t : Nat, t ≤ t0 ∧ ∃ d, dMin2 (.int (t0 : Nat)) (.int (n : Nat)) = .ok d ∧ dMax2 (.int 1) d = .ok (.int (t : Nat)) := by
  have hk : ∃ m : Nat, m ≤ t0 ∧ dMin2 (.int (t0 : Nat)) (.int (n : Nat)) = .ok (.int (m : Nat)) := by
    by_cases h : n < t0
    · refine ⟨n, by omega, ?_⟩
      show Out.ok (D.int (if (n : Int) < (t0 : Nat) then (n : Int) else (t0 : Nat))) = _
      rw [if_pos (by omega)]
    · refine ⟨t0, by omega, ?_⟩
      show Out.ok (D.int (if (n : Int) < (t0 : Nat) then (n : Int) else (t0 : Nat))) = _
      rw [if_neg (by omega)]
  obtain ⟨m, hm5, em⟩ := hk
  by_cases h : 1 < m
  · refine ⟨m, by omega, _, em, ?_⟩
    show Out.ok (D.int (if (m : Int) > 1 then (m : Int) else 1)) = _
    rw [if_pos (by omega)]
  · refine ⟨1, by omega, _, em, ?_⟩
    show Out.ok (D.int (if (m : Int) > 1 then (m : Int) else 1)) = _
    rw [if_neg (by omega)]
    rfl

theorem mAnd_bl {a b : FL.Env → Out D} {Γ : FL.Env} {x y : Bool} (ha : a Γ = .ok (.bl x)) (hb : x = true → b Γ = .ok (.bl y)) : mAnd a b Γ = .ok (.bl (x && y)) := by
  unfold mAnd
  rw [ha, Out.bind]
  cases x with
  | true => exact hb rfl
  | false => rfl
theorem chain_bl {f g : D → D → Out D} {a b c : FL.Env → Out D} {Γ : FL.Env} {x y z : D} {p q : Bool} (ha : a Γ = .ok x) (hb : b Γ = .ok y) (hf : f x y = .ok (.bl p)) (hc : c Γ = .ok z) (hg : g y z = .ok (.bl q)) : mChain f g a b c Γ = .ok (.bl (p && q)) := by
  unfold mChain
  rw [ha, Out.bind, hb, Out.bind, hf, Out.bind]
  cases p with
  | true =>
    show (c Γ).bind (g y) = _
    rw [hc]
    exact hg
  | false => rfl
theorem tNot_ok {c : FL.Env → Out Bool} {Γ : FL.Env} {b : Bool} (h : c Γ = .ok b) : tNotM c Γ = .ok (!b) := by
  unfold tNotM
  rw [h]
  rfl
theorem tOr_ok {a b : FL.Env → Out Bool} {Γ : FL.Env} {x y : Bool} (ha : a Γ = .ok x) (hb : x = false → b Γ = .ok y) : tOrM a b Γ = .ok (x || y) := by
  unfold tOrM
  rw [ha, Out.bind]
  cases x with
  | true => rfl
  | false => exact hb rfl
theorem a3_ok {a b c : FL.Env → Out D} {Γ : FL.Env} {x y z : D} (ha : a Γ = .ok x) (hb : b Γ = .ok y) (hc : c Γ = .ok z) : mCons a (mCons b (mCons c mNil)) Γ = .ok [x, y, z] := mCons_ok ha (a2_ok hb hc)
theorem f3_ok {f : List D → Out D} {a b c : FL.Env → Out D} {Γ : FL.Env} {x y z : D} {o : Out D} (ha : a Γ = .ok x) (hb : b Γ = .ok y) (hc : c Γ = .ok z) (h : f [x, y, z] = o) : mN (arg 3 f) (mCons a (mCons b (mCons c mNil))) Γ = o := by
  unfold mN
  rw [a3_ok ha hb hc]
  exact h
theorem sIf_ret {c : FL.Env → Out Bool} {Γ : FL.Env} {d : D} {b : FL.Env → SO} (h : c Γ = .ok true) : sIf c (sRet (mC d)) b Γ = .rt d := (sIf_ok h).trans rfl
theorem seq_rt {a b : FL.Env → SO} {Γ : FL.Env} {P : FL.Env → Prop} {o : SO} (h : Goes a Γ P) (k : ∀ Γ', P Γ' → b Γ' = o) : sSeq a b Γ = o := by
  obtain ⟨Γ', e, p⟩ := h
  rw [sSeq_nx e]
  exact k Γ' p
/-- a for that leaves at the first item of which q holds -/
theorem forL_first {α : Type} {p : Pt} {b : FL.Env → SO} {v : D} (f : α → D) (q : α → Bool) (I : FL.Env → Prop) : ∀ {xs : List α} {Γ : FL.Env}, I Γ → (∀ x ∈ xs, ∀ Γ, I Γ → ∃ Γ1, bindP p (f x) Γ = some Γ1 ∧ ((q x = true ∧ b Γ1 = .rt v) ∨ (q x = false ∧ ∃ Γ2, b Γ1 = .nx Γ2 ∧ I Γ2))) →
    (xs.any q = true ∧ forL p b (xs.map f) Γ = .rt v) ∨ (xs.any q = false ∧ ∃ Γ', forL p b (xs.map f) Γ = .nx Γ' ∧ I Γ')
  | [], Γ, h, _ => .inr ⟨rfl, Γ, rfl, h⟩
  | x :: xs, Γ, h, st => by
    obtain ⟨Γ1, h1, h2⟩ := st x List.mem_cons_self Γ h
    rcases h2 with ⟨hq, h2⟩ | ⟨hq, Γ2, h2, h3⟩
    · refine .inl ⟨by rw [List.any_cons, hq]; rfl, ?_⟩
      simp only [List.map_cons, forL, h1, h2]
    · have ih := forL_first f q I (xs := xs) (Γ := Γ2) h3 (fun y hy => st y (List.mem_cons_of_mem _ hy))
      rcases ih with ⟨e1, e2⟩ | ⟨e1, Γ', e2, e3⟩
      · refine .inl ⟨by rw [List.any_cons, e1, Bool.or_true], ?_⟩
        simp only [List.map_cons, forL, h1, h2, e2]
      · refine .inr ⟨by rw [List.any_cons, hq, e1]; rfl, Γ', ?_, e3⟩
        simp only [List.map_cons, forL, h1, h2, e2]
theorem sIf_yes {c : FL.Env → Out Bool} {a b : FL.Env → SO} {Γ : FL.Env} {o : SO} (h : c Γ = .ok true) (k : a Γ = o) : sIf c a b Γ = o := (sIf_ok h).trans ((if_pos rfl).trans k)
theorem drop_ok {m : FL.Env → Out D} {Γ : FL.Env} {d : D} {b : FL.Env → SO} (h : m Γ = .ok d) : sSeq (sDrop m) b Γ = b Γ := by
  refine sSeq_nx ?_
  unfold sDrop
  rw [h]
  rfl
theorem drop_exc {m : FL.Env → Out D} {Γ : FL.Env} {c : Str} {b : FL.Env → SO} (h : m Γ = .exc c) : sSeq (sDrop m) b Γ = .exc c := by
  refine sSeq_exc ?_
  unfold sDrop
  rw [h]
  rfl
theorem Goes.mono {m : FL.Env → SO} {Γ : FL.Env} {P Q : FL.Env → Prop} (h : Goes m Γ P) (k : ∀ Γ, P Γ → Q Γ) : Goes m Γ Q := by
  obtain ⟨Γ', e, p⟩ := h
  exact ⟨Γ', e, k Γ' p⟩
theorem tAnd_ok {a b : FL.Env → Out Bool} {Γ : FL.Env} {x y : Bool} (ha : a Γ = .ok x) (hb : x = true → b Γ = .ok y) : tAndM a b Γ = .ok (x && y) := by
  unfold tAndM
  rw [ha, Out.bind]
  cases x with
  | true => exact hb rfl
  | false => rfl
theorem dAdd_lst {xs ys : List D} (h : xs.length + ys.length ≤ LIM) : dAdd (.lst xs) (.lst ys) = .ok (.lst (xs ++ ys)) := by
  show (if _ then _ else _) = _
  rw [if_pos h]
theorem dAdd_lit {xs ys : List D} (h : xs.length + ys.length ≤ 16777216) : dAdd (.lst xs) (.lst ys) = .ok (.lst (xs ++ ys)) := dAdd_lst h

/-! ### lines -/
def lnD (p : Int × Int) : D := .tup [.int p.1, .int p.2]
def lsD (ls : List (Int × Int)) : D := .lst (ls.map lnD)
def lxP (p q : Int × Int) : Bool := decide (p.1 < q.1 ∨ p.1 = q.1 ∧ p.2 < q.2)
structure Web (n : Nat) (ls : List (Int × Int)) : Prop where
  n1 : 1 ≤ n
  n7 : n ≤ 7
  ln : ∀ p ∈ ls, 0 ≤ p.1 ∧ p.1 < p.2 ∧ p.2 < (n : Int)
  pw : ls.Pairwise fun p q => lxP p q = true
  len : ls.length ≤ 100
def webD (n : Nat) (ls : List (Int × Int)) : D := .tup [.int (n : Nat), lsD ls]
theorem node_int (a n : Int) : m_is_node [.int a, .int n] = .ok (.bl (decide (0 ≤ a) && decide (a < n))) := by
  refine defM_rt ?_
  show sRet _ [some (.dat (.int a)), some (.dat (.int n))] = _
  refine sRet_ok ((mAnd_bl (x := true) (by rfl) (fun _ => mAnd_bl (x := true) (by rfl) (fun _ => chain_bl (by rfl) (by rfl) (dLe_int _ _) (by rfl) (dLt_int _ _)))).trans ?_)
  rfl
theorem node_bl (b : Bool) (n : Int) : m_is_node [.bl b, .int n] = .ok (.bl false) := by
  refine defM_rt ?_
  show sRet _ [some (.dat (.bl b)), some (.dat (.int n))] = _
  exact sRet_ok (mAnd_bl (x := true) (y := false) (by rfl) (fun _ => mAnd_bl (x := false) (y := false) (by rfl) (fun h => by cases h)))
/-- a tuple of two things, of which each is a node or not -/
theorem line_pair {x y : D} {n : Int} {p q : Bool} (hx : m_is_node [x, .int n] = .ok (.bl p)) (hy : m_is_node [y, .int n] = .ok (.bl q)) (r : Bool) (hr : p = true → q = true → dLt x y = .ok (.bl r)) : m_is_line [.tup [x, y], .int n] = .ok (.bl (p && q && r)) := by
  refine defM_rt ?_
  show sSeq _ _ [some (.dat (.tup [x, y])), some (.dat (.int n)), none] = _
  have ea : mN (c1 dAll) (mCons (mComp [2] (.nm 2) (mItems (mVar 0)) (tYesM) (mN (arg 2 m_is_node) (mCons (mVar 2) (mCons (mVar 1) (mNil))))) (mNil)) [some (.dat (.tup [x, y])), some (.dat (.int n)), none] = .ok (.bl (p && q)) := by
    refine (b1_ok (mComp_all (xs := [(x, p), (y, q)]) (·.1) (fun z => D.bl z.2) (by rfl) (fun z hz => ⟨_, rfl, ?_⟩) (by unfold LIM; simp)) (dAll_map _ _)).trans ?_
    · simp only [List.mem_cons, List.not_mem_nil, or_false] at hz
      rcases hz with rfl | rfl
      · exact f2_ok (by rfl) (by rfl) hx
      · exact f2_ok (by rfl) (by rfl) hy
    · simp
  have ec : (tOrM (tNotM (mT (mN (c2 dIsi) (mCons (mVar 0) (mCons (mC (.ty "tuple")) (mNil)))))) (tOrM (mT (m2 dNe (mN (c1 dLen) (mCons (mVar 0) (mNil))) (mC (.int 2)))) (tNotM (mT (mN (c1 dAll) (mCons (mComp [2] (.nm 2) (mItems (mVar 0)) (tYesM) (mN (arg 2 m_is_node) (mCons (mVar 2) (mCons (mVar 1) (mNil))))) (mNil))))))) [some (.dat (.tup [x, y])), some (.dat (.int n)), none] = .ok (!(p && q)) := by
    refine (tOr_ok (x := false) (y := !(p && q)) (tNot_ok (b := true) (by rfl)) (fun _ => tOr_ok (x := false) (y := !(p && q)) (by rfl) (fun _ => tNot_ok (mT_ok ea)))).trans ?_
    rfl
  cases hpq : (p && q) with
  | false =>
    rw [hpq] at ec
    exact sSeq_rt (sIf_ret ec)
  | true =>
    rw [hpq] at ec
    rw [Bool.and_eq_true] at hpq
    rw [sSeq_nx (sIf_no ec)]
    exact sRet_ok (m2_ok (m2_ok (by rfl) (by rfl) dIx_tup0) (m2_ok (by rfl) (by rfl) dIx_tup1) (hr hpq.1 hpq.2))
theorem line_int (a b n : Int) : m_is_line [lnD (a, b), .int n] = .ok (.bl ((decide (0 ≤ a) && decide (a < n)) && (decide (0 ≤ b) && decide (b < n)) && decide (a < b))) :=
  line_pair (node_int a n) (node_int b n) _ (fun _ _ => dLt_int a b)
theorem line_not {d : D} {n : Int} (h : dIsi d (.ty "tuple") = .ok (.bl false)) : m_is_line [d, .int n] = .ok (.bl false) := by
  refine defM_rt ?_
  show sSeq _ _ [some (.dat d), some (.dat (.int n)), none] = _
  exact sSeq_rt (sIf_ret (tOr_ok (x := true) (y := true) (tNot_ok (b := false) (mT_ok (b2_ok (by rfl) (by rfl) h))) (fun h => by cases h)))
theorem line_long {xs : List D} {n : Int} (h : xs.length ≠ 2) : m_is_line [.tup xs, .int n] = .ok (.bl false) := by
  refine defM_rt ?_
  show sSeq _ _ [some (.dat (.tup xs)), some (.dat (.int n)), none] = _
  have e : dNe (.int (xs.length : Nat)) (.int 2) = .ok (.bl true) := by
    rw [dNe_int, decide_eq_false (by omega)]
    rfl
  exact sSeq_rt (sIf_ret (tOr_ok (x := false) (y := true) (tNot_ok (b := true) (by rfl)) (fun _ => tOr_ok (x := true) (y := true) (mT_ok (m2_ok (b1_ok (by rfl) (show dLen (.tup xs) = .ok (.int (xs.length : Nat)) from rfl)) (by rfl) e)) (fun h => by cases h))))
/-- the first half of need_web -/
theorem web_first {n : Int} {xs : List D} {q : D → Bool} (hq : ∀ x ∈ xs, m_is_line [x, .int n] = .ok (.bl (q x))) (hl : xs.length ≤ 1000) {b : FL.Env → SO} :
    sSeq (sIf (tOrM (tNotM (mT (mN (c2 dIsi) (mCons (mVar 2) (mCons (mC (.ty "list")) (mNil)))))) (tOrM (tNotM (mT (mChain dLe dLe (mC (.int 1)) (mVar 1) (mC (.int 10))))) (tNotM (mT (mN (c1 dAll) (mCons (mComp [3] (.nm 3) (mItems (mVar 2)) (tYesM) (mN (arg 2 m_is_line) (mCons (mVar 3) (mCons (mVar 1) (mNil))))) (mNil))))))) (sRaise "BadWeb") (sNext)) b [some (.dat (.tup [.int n, .lst xs])), some (.dat (.int n)), some (.dat (.lst xs)), none, none] =
      if (decide (1 ≤ n) && decide (n ≤ 10)) = true ∧ xs.all q = true then b [some (.dat (.tup [.int n, .lst xs])), some (.dat (.int n)), some (.dat (.lst xs)), none, none] else .exc "BadWeb" := by
  have e1 : mT (mChain dLe dLe (mC (.int 1)) (mVar 1) (mC (.int 10))) [some (.dat (.tup [.int n, .lst xs])), some (.dat (.int n)), some (.dat (.lst xs)), none, none] = .ok (decide (1 ≤ n) && decide (n ≤ 10)) :=
    mT_ok (chain_bl (by rfl) (by rfl) (dLe_int _ _) (by rfl) (dLe_int _ _))
  have e2 : mT (mN (c1 dAll) (mCons (mComp [3] (.nm 3) (mItems (mVar 2)) (tYesM) (mN (arg 2 m_is_line) (mCons (mVar 3) (mCons (mVar 1) (mNil))))) (mNil))) [some (.dat (.tup [.int n, .lst xs])), some (.dat (.int n)), some (.dat (.lst xs)), none, none] = .ok (xs.all q) :=
    mT_ok (b1_ok (mComp_all (xs := xs) (fun x => x) (fun x => D.bl (q x)) (by rw [List.map_id']; rfl) (fun x hx => ⟨_, rfl, f2_ok (by rfl) (by rfl) (hq x hx)⟩) (by unfold LIM; omega)) (dAll_map _ _))
  have e3 := tOr_ok (a := tNotM (mT (mN (c2 dIsi) (mCons (mVar 2) (mCons (mC (.ty "list")) (mNil)))))) (x := false) (tNot_ok (b := true) (by rfl)) (fun _ => tOr_ok (tNot_ok e1) (fun _ => tNot_ok e2))
  cases h1 : (decide (1 ≤ n) && decide (n ≤ 10)) with
  | false =>
    rw [h1] at e3
    rw [if_neg (fun z => by cases z.1)]
    exact sSeq_exc ((sIf_ok (x := true) e3).trans rfl)
  | true =>
    cases h2 : xs.all q with
    | false =>
      rw [h1, h2] at e3
      rw [if_neg (fun z => by cases z.2)]
      exact sSeq_exc ((sIf_ok (x := true) e3).trans rfl)
    | true =>
      rw [h1, h2] at e3
      rw [if_pos ⟨rfl, rfl⟩]
      exact sSeq_nx (sIf_no e3)
theorem web_bad {n : Int} {xs : List D} {q : D → Bool} (hq : ∀ x ∈ xs, m_is_line [x, .int n] = .ok (.bl (q x))) (hl : xs.length ≤ 1000) (h : ¬ ((decide (1 ≤ n) && decide (n ≤ 10)) = true ∧ xs.all q = true)) : m_need_web [.tup [.int n, .lst xs]] = .exc "BadWeb" := by
  refine defM_exc ?_
  show sSeq _ _ [some (.dat (.tup [.int n, .lst xs])), none, none, none, none] = _
  rw [sSeq_nx (Γ' := [some (.dat (.tup [.int n, .lst xs])), some (.dat (.int n)), some (.dat (.lst xs)), none, none]) (by rfl), web_first hq hl, if_neg h]
theorem web_none {n : Int} : m_need_web [.tup [.int n, .non]] = .exc "BadWeb" := by
  refine defM_exc ?_
  show sSeq _ _ [some (.dat (.tup [.int n, .non])), none, none, none, none] = _
  rw [sSeq_nx (Γ' := [some (.dat (.tup [.int n, .non])), some (.dat (.int n)), some (.dat .non), none, none]) (by rfl)]
  exact sSeq_exc ((sIf_ok (x := true) (tOr_ok (x := true) (y := true) (by rfl) (fun h => by cases h))).trans rfl)
theorem zip_lines (ls : List (Int × Int)) (hl : ls.length ≤ 1000) {x0 x1 : Option Sl} : mT (mN (c1 dAll) (mCons (mComp [3, 4] (.tp [3, 4]) (mI zipI (mCons (mVar 2) (mCons (mSl (mVar 2) (oSome (mC (.int 1))) (oNone)) (mNil)))) (tYesM) (m2 dLt (mVar 3) (mVar 4))) (mNil))) [x0, x1, some (.dat (lsD ls)), none, none] = .ok ((ls.zip (ls.drop 1)).all fun p => lxP p.1 p.2) := by
  have e1 : mSl (mVar 2) (oSome (mC (.int 1))) (oNone) [x0, x1, some (.dat (lsD ls)), none, none] = .ok (lsD (ls.drop 1)) := by
    have := cut_from (ls.map lnD) 1
    show Out.ok (D.lst (cutD (ls.map lnD) (some 1) none)) = _
    rw [show (1 : Int) = ((1 : Nat) : Int) from rfl, this]
    unfold lsD
    rw [List.map_drop]
  refine mT_ok (b1_ok (mComp_all (fun p : (Int × Int) × (Int × Int) => D.tup [lnD p.1, lnD p.2]) (fun p => D.bl (lxP p.1 p.2)) (mI_ok (a2_ok (x := lsD ls) (by rfl) e1) (by show Out.ok (zipL _ _) = _; rw [zipL_map])) (fun p hp => ⟨_, rfl, ?_⟩) (by rw [List.length_zip]; unfold LIM; omega)) (dAll_map _ _))
  exact m2_ok (by rfl) (by rfl) (dLt_pair _ _ _ _)
theorem zip_rise : ∀ {ls : List (Int × Int)}, ls.Pairwise (fun p q => lxP p q = true) → ((ls.zip (ls.drop 1)).all fun p => lxP p.1 p.2) = true
  | [], _ => rfl
  | [x], _ => rfl
  | x :: y :: xs, h => by
    rw [List.pairwise_cons] at h
    have ih := zip_rise h.2
    simp only [List.drop_succ_cons, List.drop_zero] at ih ⊢
    rw [List.zip_cons_cons, List.all_cons, ih, h.1 y List.mem_cons_self]
    rfl
theorem Web.ok {n : Nat} {ls : List (Int × Int)} (w : Web n ls) : m_need_web [webD n ls] = .ok .non := by
  unfold m_need_web defM
  rw [show ([webD n ls].map (fun d => some (Sl.dat d)) ++ List.replicate 4 none) = [some (.dat (webD n ls)), none, none, none, none] from rfl]
  rw [sSeq_nx (Γ' := [some (.dat (.tup [.int (n : Nat), lsD ls])), some (.dat (.int (n : Nat))), some (.dat (lsD ls)), none, none]) (by rfl)]
  have hl := w.len
  unfold lsD
  rw [web_first (q := fun _ => true) (fun x hx => by
    obtain ⟨p, hp, rfl⟩ := List.mem_map.mp hx
    have := w.ln p hp
    obtain ⟨a, b⟩ := p
    rw [line_int]
    simp only at this
    rw [decide_eq_true (show 0 ≤ a by omega), decide_eq_true (show a < (n : Int) by omega), decide_eq_true (show 0 ≤ b by omega), decide_eq_true (show b < (n : Int) by omega), decide_eq_true (show a < b by omega)]
    rfl) (by rw [List.length_map]; omega), if_pos]
  · rw [sIf_no (tNot_ok (b := true) (by rw [show D.lst (ls.map lnD) = lsD ls from rfl, zip_lines ls (by omega), zip_rise w.pw]))]
  · have h1 := w.n1
    have h2 := w.n7
    refine ⟨?_, List.all_eq_true.mpr fun _ _ => rfl⟩
    rw [Bool.and_eq_true, decide_eq_true_iff, decide_eq_true_iff]
    omega
theorem web_fall {n : Int} {ls : List (Int × Int)} (hl : ls.length ≤ 1000) (h : ((ls.zip (ls.drop 1)).all fun p => lxP p.1 p.2) = false) : m_need_web [.tup [.int n, lsD ls]] = .exc "BadWeb" := by
  refine defM_exc ?_
  show sSeq _ _ [some (.dat (.tup [.int n, lsD ls])), none, none, none, none] = _
  rw [sSeq_nx (Γ' := [some (.dat (.tup [.int n, lsD ls])), some (.dat (.int n)), some (.dat (lsD ls)), none, none]) (by rfl)]
  unfold lsD
  rw [web_first (q := fun x => match x with | .tup [.int a, .int b] => ((decide (0 ≤ a) && decide (a < n)) && (decide (0 ≤ b) && decide (b < n)) && decide (a < b)) | _ => false) (fun x hx => by
    obtain ⟨p, hp, rfl⟩ := List.mem_map.mp hx
    obtain ⟨a, b⟩ := p
    rw [line_int]
    rfl) (by rw [List.length_map]; omega)]
  split
  · exact (sIf_ok (tNot_ok (b := false) (by rw [show D.lst (ls.map lnD) = lsD ls from rfl, zip_lines ls hl, h]))).trans rfl
  · rfl
end K70
set_option Elab.async false
set_option linter.all false
set_option maxRecDepth 100000
set_option maxHeartbeats 4000000
namespace K70
open PySem PySem.Spec PyProof.Rows L2 LamX FL
/-! ### halves -/
def hD (h : List Int) : D := .lst (h.map D.int)
def hsD (hs : List (List Int)) : D := .lst (hs.map hD)
def nx2 (h : List Int) : List (List Int) := [h ++ [0], h ++ [1]]
def hal : Nat → List (List Int)
  | 0 => [[0]]
  | k + 1 => (hal k).flatMap nx2
theorem nx2_len : ∀ l : List (List Int), (l.flatMap nx2).length = l.length * 2
  | [] => rfl
  | a :: l => by
    rw [List.flatMap_cons, List.length_append, nx2_len l, List.length_cons]
    show 2 + _ = _
    omega
theorem hal_len : ∀ k, (hal k).length = 2 ^ k
  | 0 => rfl
  | k + 1 => by
    unfold hal
    rw [nx2_len, hal_len k, Nat.pow_succ]
theorem hal_le {k : Nat} (h : k ≤ 9) : (hal k).length ≤ 512 := by
  rw [hal_len]
  exact Nat.pow_le_pow_right (n := 2) (by omega) h
theorem getD0_app {g : List Int} {x : Int} (h : 0 < g.length) : (g ++ [x]).getD 0 1 = g.getD 0 1 := by
  cases g with
  | nil => simp at h
  | cons a b => rfl
theorem hal_mem : ∀ {k : Nat} {h : List Int}, h ∈ hal k ↔ h.length = k + 1 ∧ h.getD 0 1 = 0 ∧ ∀ x ∈ h, x = 0 ∨ x = 1
  | 0, h => by
    unfold hal
    rw [List.mem_singleton]
    constructor
    · rintro rfl
      exact ⟨rfl, rfl, fun x hx => by rw [List.mem_singleton] at hx; exact .inl hx⟩
    · rintro ⟨h1, h2, _⟩
      match h, h1 with
      | [a], _ =>
        simp at h2
        rw [h2]
  | k + 1, h => by
    unfold hal
    rw [List.mem_flatMap]
    constructor
    · rintro ⟨g, hg, hh⟩
      obtain ⟨g1, g2, g3⟩ := hal_mem.mp hg
      have hgl : 0 < g.length := by omega
      unfold nx2 at hh
      simp only [List.mem_cons, List.not_mem_nil, or_false] at hh
      rcases hh with rfl | rfl
      · refine ⟨by simp [g1], (getD0_app hgl).trans g2, fun x hx => ?_⟩
        rcases List.mem_append.mp hx with z | z
        · exact g3 x z
        · rw [List.mem_singleton] at z
          exact .inl z
      · refine ⟨by simp [g1], (getD0_app hgl).trans g2, fun x hx => ?_⟩
        rcases List.mem_append.mp hx with z | z
        · exact g3 x z
        · rw [List.mem_singleton] at z
          exact .inr z
    · rintro ⟨h1, h2, h3⟩
      have hne : h ≠ [] := fun z => by rw [z] at h1; simp at h1
      have e : h = h.dropLast ++ [h.getLast hne] := (List.dropLast_concat_getLast hne).symm
      have hl : h.dropLast.length = k + 1 := by rw [List.length_dropLast]; omega
      refine ⟨h.dropLast, hal_mem.mpr ⟨hl, ?_, fun x hx => h3 x (List.dropLast_subset h hx)⟩, ?_⟩
      · rw [e, getD0_app (by omega)] at h2
        exact h2
      · unfold nx2
        simp only [List.mem_cons, List.not_mem_nil, or_false]
        rcases h3 _ (List.getLast_mem hne) with z | z
        · left
          rw [z] at e
          exact e
        · right
          rw [z] at e
          exact e
theorem hal_hlen {k : Nat} {h : List Int} (m : h ∈ hal k) : h.length = k + 1 := (hal_mem.mp m).1
theorem two_rows {Γ : FL.Env} {i : Nat} {h : List Int} (hv : mVar i Γ = .ok (hD h)) (hl : h.length ≤ 1000) : mN dLst (mCons (m2 dAdd (mVar i) (mN dLst (mCons (mC (.int 0)) (mNil)))) (mCons (m2 dAdd (mVar i) (mN dLst (mCons (mC (.int 1)) (mNil)))) (mNil))) Γ = .ok (hsD (nx2 h)) := by
  have e : ∀ z : Int, dAdd (hD h) (.lst [.int z]) = .ok (hD (h ++ [z])) := fun z => by
    unfold hD
    rw [dAdd_lst (by rw [List.length_map]; unfold LIM; simp; omega), List.map_append]
    rfl
  exact mN_ok (a2_ok (m2_ok hv (by rfl) (e 0)) (m2_ok hv (by rfl) (e 1))) (by rfl)
theorem rng_one (n : Nat) (h1 : 1 ≤ n) (h : n ≤ 1000) : rng2 [.int 1, .int (n : Nat)] = .ok (intsD 1 (n - 1)) := by
  have hc : (-RLIM ≤ 1 ∧ 1 < RLIM) ∧ (-RLIM ≤ ((n : Nat) : Int) ∧ ((n : Nat) : Int) < RLIM) := by unfold RLIM; omega
  simp only [rng2]
  rw [if_pos hc, show (((n : Nat) : Int) - 1).toNat = n - 1 by omega]
theorem halves_val (n : Nat) (h1 : 1 ≤ n) (hn : n ≤ 10) : m_all_halves [.int (n : Nat)] = .ok (hsD (hal (n - 1))) := by
  have hal_l : ∀ j, j ≤ 9 → (hal j).length ≤ 512 := fun j hj => hal_le hj
  have G : Goes (sFor (.nm 2) (mI rng2 (mCons (mC (.int 1)) (mCons (mVar 0) (mNil)))) (sSeq (sOwn 3 (mNil)) (sSeq (sFor (.nm 4) (mItems (mVar 1)) (sExtd 3 (mN dLst (mCons (m2 dAdd (mVar 4) (mN dLst (mCons (mC (.int 0)) (mNil)))) (mCons (m2 dAdd (mVar 4) (mN dLst (mCons (mC (.int 1)) (mNil)))) (mNil)))))) (sFrz 3 (sSet 1 (mVar 3))))))
      [some (.dat (.int (n : Nat))), some (.dat (hsD (hal 0))), none, none, none] (fun Γ => ∃ a b c : Option Sl, Γ = [some (.dat (.int (n : Nat))), some (.dat (hsD (hal (n - 1)))), a, b, c]) := by
    have := Goes.for (p := .nm 2) (it := mI rng2 (mCons (mC (.int 1)) (mCons (mVar 0) (mNil)))) (b := sSeq (sOwn 3 (mNil)) (sSeq (sFor (.nm 4) (mItems (mVar 1)) (sExtd 3 (mN dLst (mCons (m2 dAdd (mVar 4) (mN dLst (mCons (mC (.int 0)) (mNil)))) (mCons (m2 dAdd (mVar 4) (mN dLst (mCons (mC (.int 1)) (mNil)))) (mNil)))))) (sFrz 3 (sSet 1 (mVar 3)))))
      (Γ := [some (.dat (.int (n : Nat))), some (.dat (hsD (hal 0))), none, none, none]) (ds := intsD 1 (n - 1))
      (fun j Γ => ∃ a b c : Option Sl, Γ = [some (.dat (.int (n : Nat))), some (.dat (hsD (hal j))), a, b, c]) (mI_ok (a2_ok (by rfl) (by rfl)) (rng_one n h1 (by omega))) ⟨none, none, none, rfl⟩ (fun j d Γ hd hI => by
        obtain ⟨a, b, c, rfl⟩ := hI
        have hj : j < n - 1 := by
          have := (List.getElem?_eq_some_iff.mp hd).1
          rw [intsD, List.length_map, List.length_range] at this
          exact this
        have hl := hal_l j (by omega)
        refine ⟨_, rfl, ?_⟩
        simp only [List.set_cons_zero, List.set_cons_succ]
        refine .seq (sOwn_ok (ds := []) (by rfl) (by simp)) ?_
        simp only [List.set_cons_zero, List.set_cons_succ]
        refine .seq' (Q := fun Γ => ∃ z : Option Sl, Γ = [some (.dat (.int (n : Nat))), some (.dat (hsD (hal j))), some (.dat d), some (.own ((hal (j + 1)).map hD)), z]) ?_ ?_
        · have := Goes.for (p := .nm 4) (it := mItems (mVar 1)) (b := sExtd 3 (mN dLst (mCons (m2 dAdd (mVar 4) (mN dLst (mCons (mC (.int 0)) (mNil)))) (mCons (m2 dAdd (mVar 4) (mN dLst (mCons (mC (.int 1)) (mNil)))) (mNil)))))
            (Γ := [some (.dat (.int (n : Nat))), some (.dat (hsD (hal j))), some (.dat d), some (.own []), c]) (ds := (hal j).map hD)
            (fun i Γ => ∃ z : Option Sl, Γ = [some (.dat (.int (n : Nat))), some (.dat (hsD (hal j))), some (.dat d), some (.own ((((hal j).take i).flatMap nx2).map hD)), z]) (by rfl) ⟨c, rfl⟩ (fun i d2 Γ hd2 hI => by
              obtain ⟨z, rfl⟩ := hI
              rw [List.getElem?_map] at hd2
              obtain ⟨h, hh, rfl⟩ := Option.map_eq_some_iff.mp hd2
              have hhl := hal_hlen (List.mem_of_getElem? hh)
              refine ⟨_, rfl, ?_⟩
              simp only [List.set_cons_zero, List.set_cons_succ]
              have l1 := nx2_len ((hal j).take i)
              rw [List.length_take] at l1
              refine .end (sExtd_ok (es := (nx2 h).map hD) (by rfl) (two_rows (by rfl) (by omega)) (by rw [List.length_map, List.length_map, l1]; show _ + 2 ≤ _; unfold LIM; omega)) ⟨some (.dat (hD h)), ?_⟩
              have e2 : (hal j).take (i + 1) = (hal j).take i ++ [h] := by
                rw [List.take_succ, hh]
                rfl
              rw [e2, List.flatMap_append, List.map_append]
              simp only [List.set_cons_zero, List.set_cons_succ, List.flatMap_cons, List.flatMap_nil, List.append_nil])
          rw [List.length_map, List.take_of_length_le (Nat.le_refl _)] at this
          exact this
        · rintro Γ ⟨z, rfl⟩
          refine .frz ?_
          exact .end (sSet_ok (by rfl)) ⟨_, _, _, rfl⟩)
    rw [intsD, List.length_map, List.length_range] at this
    exact this
  obtain ⟨Γ', hG, a, b, c, rfl⟩ := G
  refine defM_rt ?_
  show sSeq _ _ [some (.dat (.int (n : Nat))), none, none, none, none] = _
  rw [sSeq_nx (Γ' := [some (.dat (.int (n : Nat))), some (.dat (hsD (hal 0))), none, none, none]) (by rfl), sSeq_nx hG]
  rfl
theorem lists_val (n : Nat) (h1 : 1 ≤ n) (hn : n ≤ 10) : m_L_lists [.int (n : Nat)] = .ok (hsD (hal (n - 1))) := by
  have hal_l : ∀ j, j ≤ 9 → (hal j).length ≤ 512 := fun j hj => hal_le hj
  have G : Goes (sFor (.nm 2) (mI rng1 (mCons (m2 dSub (mVar 0) (mC (.int 1))) (mNil))) (sSeq (sSet 3 (mN dLst (mNil))) (sSeq (sFor (.nm 4) (mItems (mVar 1)) (sSet 3 (m2 dAdd (mVar 3) (mN dLst (mCons (m2 dAdd (mVar 4) (mN dLst (mCons (mC (.int 0)) (mNil)))) (mCons (m2 dAdd (mVar 4) (mN dLst (mCons (mC (.int 1)) (mNil)))) (mNil))))))) (sSet 1 (mVar 3)))))
      [some (.dat (.int (n : Nat))), some (.dat (hsD (hal 0))), none, none, none] (fun Γ => ∃ a b c : Option Sl, Γ = [some (.dat (.int (n : Nat))), some (.dat (hsD (hal (n - 1)))), a, b, c]) := by
    refine Goes.range (n := n - 1) (fun j Γ => ∃ a b c : Option Sl, Γ = [some (.dat (.int (n : Nat))), some (.dat (hsD (hal j))), a, b, c]) (mI_ok (a1_ok (m2_ok (by rfl) (by rfl) (dSub_int _ _))) (by rw [show ((n : Nat) : Int) - 1 = ((n - 1 : Nat) : Int) by omega]; exact rng1_nat (by omega))) ⟨none, none, none, rfl⟩ ?_
    rintro j Γ hj ⟨a, b, c, rfl⟩
    have hl := hal_l j (by omega)
    simp only [List.set_cons_zero, List.set_cons_succ]
    refine .seq (sSet_ok (d := hsD []) (by rfl)) ?_
    simp only [List.set_cons_zero, List.set_cons_succ]
    refine .seq' (Q := fun Γ => ∃ z : Option Sl, Γ = [some (.dat (.int (n : Nat))), some (.dat (hsD (hal j))), some (.dat (.int (j : Nat))), some (.dat (hsD (hal (j + 1)))), z]) ?_ ?_
    · have := Goes.for (p := .nm 4) (it := mItems (mVar 1)) (b := sSet 3 (m2 dAdd (mVar 3) (mN dLst (mCons (m2 dAdd (mVar 4) (mN dLst (mCons (mC (.int 0)) (mNil)))) (mCons (m2 dAdd (mVar 4) (mN dLst (mCons (mC (.int 1)) (mNil)))) (mNil))))))
        (Γ := [some (.dat (.int (n : Nat))), some (.dat (hsD (hal j))), some (.dat (.int (j : Nat))), some (.dat (hsD [])), c]) (ds := (hal j).map hD)
        (fun i Γ => ∃ z : Option Sl, Γ = [some (.dat (.int (n : Nat))), some (.dat (hsD (hal j))), some (.dat (.int (j : Nat))), some (.dat (hsD (((hal j).take i).flatMap nx2))), z]) (by rfl) ⟨c, rfl⟩ (fun i d2 Γ hd2 hI => by
          obtain ⟨z, rfl⟩ := hI
          rw [List.getElem?_map] at hd2
          obtain ⟨h, hh, rfl⟩ := Option.map_eq_some_iff.mp hd2
          have hhl := hal_hlen (List.mem_of_getElem? hh)
          refine ⟨_, rfl, ?_⟩
          simp only [List.set_cons_zero, List.set_cons_succ]
          have l1 := nx2_len ((hal j).take i)
          rw [List.length_take] at l1
          have e2 : (hal j).take (i + 1) = (hal j).take i ++ [h] := by
            rw [List.take_succ, hh]
            rfl
          refine .end (sSet_ok (d := hsD (((hal j).take (i + 1)).flatMap nx2)) (m2_ok (by rfl) (two_rows (by rfl) (by omega)) ?_)) ⟨some (.dat (hD h)), rfl⟩
          unfold hsD
          rw [dAdd_lst (by rw [List.length_map, List.length_map, l1]; show _ + 2 ≤ _; unfold LIM; omega), e2, List.flatMap_append, List.map_append]
          simp)
      rw [List.length_map, List.take_of_length_le (Nat.le_refl _)] at this
      exact this
    · rintro Γ ⟨z, rfl⟩
      exact .end (sSet_ok (by rfl)) ⟨_, _, _, rfl⟩
  obtain ⟨Γ', hG, a, b, c, rfl⟩ := G
  refine defM_rt ?_
  show sSeq _ _ [some (.dat (.int (n : Nat))), none, none, none, none] = _
  rw [sSeq_nx (Γ' := [some (.dat (.int (n : Nat))), some (.dat (hsD (hal 0))), none, none, none]) (by rfl), sSeq_nx hG]
  rfl
/-! ### bad lines -/
def badL (ls : List (Int × Int)) (h : List Int) : Nat := (ls.filter fun p => decide (h.getD p.1.toNat 0 = h.getD p.2.toNat 0)).length
theorem ixH {h : List Int} {a : Int} (h0 : 0 ≤ a) (hl : a < h.length) : dIx (hD h) (.int a) = .ok (.int (h.getD a.toNat 0)) := by
  have := dIx_ints (row := h) (j := a.toNat) (by omega)
  rw [show ((a.toNat : Nat) : Int) = a by omega] at this
  exact this
theorem bad_val {n : Nat} {ls : List (Int × Int)} (w : Web n ls) {h : List Int} (hh : h.length = n) : m_bad_lines [lsD ls, hD h] = .ok (.int (badL ls h : Nat)) := by
  refine defM_rt ?_
  show sRet _ [some (.dat (lsD ls)), some (.dat (hD h)), none, none] = _
  have hl := w.len
  refine sRet_ok ((b1_ok (mComp_ok lnD (fun p => decide (h.getD p.1.toNat 0 = h.getD p.2.toNat 0)) (fun p => D.int p.1) (by rfl) (fun p hp => ⟨_, rfl, ?_, fun _ => by rfl⟩) (by unfold LIM; omega)) (dLen_lst _)).trans ?_)
  · have := w.ln p hp
    exact mT_ok (m2_ok (m2_ok (by rfl) (by rfl) (ixH (by omega) (by omega))) (m2_ok (by rfl) (by rfl) (ixH (by omega) (by omega))) (dEq_int _ _))
  · rw [List.length_map]
    rfl
theorem lbad_val {n : Nat} {ls : List (Int × Int)} (w : Web n ls) {h : List Int} (hh : h.length = n) : m_L_bad [lsD ls, hD h] = .ok (.int (badL ls h : Nat)) := bad_val w hh
def bads (n : Nat) (ls : List (Int × Int)) : List Int := (hal (n - 1)).map fun h => ((badL ls h : Nat) : Int)
theorem idx_ints {y : Int} : ∀ {xs : List Int}, y ∈ xs → ∃ j : Nat, idxD (.int y) (xs.map D.int) = some j ∧ xs[j]? = some y
  | x :: xs, h => by
    by_cases e : x = y
    · subst e
      refine ⟨0, ?_, rfl⟩
      rw [List.map_cons]
      unfold idxD
      rw [if_pos (by rw [eqv_int]; exact decide_eq_true rfl)]
    · obtain ⟨j, h1, h2⟩ := idx_ints (xs := xs) (by
        rcases List.mem_cons.mp h with z | z
        · exact absurd z.symm e
        · exact z)
      refine ⟨j + 1, ?_, by simpa using h2⟩
      rw [List.map_cons]
      unfold idxD
      rw [if_neg (by rw [eqv_int, decide_eq_false e]; simp), h1]
      rfl
theorem dIndex_ints {xs : List Int} {y : Int} {j : Nat} (h : idxD (.int y) (xs.map D.int) = some j) : dIndex (xs.map D.int) (.int y) = .ok (.int (j : Nat)) := by
  unfold dIndex
  rw [if_pos, h]
  rw [Bool.and_eq_true]
  refine ⟨rfl, ?_⟩
  rw [List.all_map, List.all_eq_true]
  exact fun _ _ => rfl
theorem hal_ne (k : Nat) : hal k ≠ [] := fun z => by
  have := hal_len k
  rw [z] at this
  have h2 : 0 < 2 ^ k := Nat.pow_pos (by omega)
  simp at this
  omega
/-- the least count, its first place, the halves there -/
theorem best_val {n : Nat} {ls : List (Int × Int)} (w : Web n ls) : ∃ (m : Nat) (j : Nat) (h : List Int), dMin (.lst ((bads n ls).map D.int)) = .ok (.int (m : Nat)) ∧ dIndex ((bads n ls).map D.int) (.int (m : Nat)) = .ok (.int (j : Nat)) ∧
    dIx (hsD (hal (n - 1))) (.int (j : Nat)) = .ok (hD h) ∧ h ∈ hal (n - 1) ∧ badL ls h = m := by
  have hne : bads n ls ≠ [] := by
    unfold bads
    simpa using hal_ne (n - 1)
  have hm := (minL_spec hne).1
  obtain ⟨h0, hh0, e0⟩ := List.mem_map.mp hm
  obtain ⟨j, h1, h2⟩ := idx_ints hm
  refine ⟨badL ls h0, j, (hal (n - 1)).getD j [], ?_, ?_, ?_, ?_, ?_⟩
  · unfold dMin
    rw [onInts_map]
    unfold fMin
    rw [if_neg (by simpa using hne), e0]
  · rw [e0]
    exact dIndex_ints h1
  · have hj := (List.getElem?_eq_some_iff.mp h2).1
    unfold bads at hj
    rw [List.length_map] at hj
    exact ix_map hD [] hj
  · have hj := (List.getElem?_eq_some_iff.mp h2).1
    unfold bads at hj
    rw [List.length_map] at hj
    simp [List.getD, hj]
  · unfold bads at h2
    rw [List.getElem?_map] at h2
    obtain ⟨g, hg, eg⟩ := Option.map_eq_some_iff.mp h2
    rw [show (hal (n - 1)).getD j [] = g by simp [List.getD, hg]]
    have : ((badL ls g : Nat) : Int) = ((badL ls h0 : Nat) : Int) := eg.trans e0.symm
    omega
theorem counts_ev {n : Nat} {ls : List (Int × Int)} (w : Web n ls) {vs : Nat} {it : FL.Env → Out (List D)} {elt : FL.Env → Out D} {Γ : FL.Env} (hi : it Γ = .ok ((hal (n - 1)).map hD)) (he : ∀ h ∈ hal (n - 1), ∃ Γ1, bindP (.nm vs) (hD h) (wipeE Γ [vs]) = some Γ1 ∧ elt Γ1 = .ok (.int (badL ls h : Nat))) : mComp [vs] (.nm vs) it tYesM elt Γ = .ok (.lst ((bads n ls).map D.int)) := by
  unfold bads
  rw [List.map_map]
  have h7 := w.n7
  exact mComp_all hD _ hi he (by have := hal_le (k := n - 1) (by omega); unfold LIM; omega)
theorem halvesOf_val {n : Nat} {ls : List (Int × Int)} (w : Web n ls) {m j : Nat} {h : List Int} (e1 : dMin (.lst ((bads n ls).map D.int)) = .ok (.int (m : Nat))) (e2 : dIndex ((bads n ls).map D.int) (.int (m : Nat)) = .ok (.int (j : Nat))) (e3 : dIx (hsD (hal (n - 1))) (.int (j : Nat)) = .ok (hD h)) :
    m_halves_of [webD n ls] = .ok (hD h) := by
  have h1 := w.n1
  have h7 := w.n7
  refine defM_rt ?_
  show sSeq _ _ [some (.dat (webD n ls)), none, none, none] = _
  have i0 : dIx (webD n ls) (.int 0) = .ok (.int (n : Nat)) := dIx_tup0
  have i1 : dIx (webD n ls) (.int 1) = .ok (lsD ls) := dIx_tup1
  rw [drop_ok (f1_ok (by rfl) w.ok), sSeq_nx (sSet_ok (f1_ok (m2_ok (by rfl) (by rfl) i0) (halves_val n h1 (by omega))))]
  simp only [List.set_cons_zero, List.set_cons_succ]
  rw [sSeq_nx (sSet_ok (counts_ev w (by rfl) (fun h hh => ⟨_, rfl, f2_ok (m2_ok (by rfl) (by rfl) i1) (by rfl) (bad_val w (by have := hal_hlen hh; omega))⟩)))]
  simp only [List.set_cons_zero, List.set_cons_succ]
  refine sRet_ok (m2_ok (by rfl) (y := .int (j : Nat)) ?_ e3)
  show (mN (c1 dMin) (mCons (mVar 2) (mNil)) _).bind (dIndex _) = _
  rw [b1_ok (by rfl) e1]
  exact e2
theorem farHalves_val {n : Nat} {ls : List (Int × Int)} (w : Web n ls) {h : List Int} (e : m_halves_of [webD n ls] = .ok (hD h)) (hm : h ∈ hal (n - 1)) : m_far_halves [webD n ls] = .ok (.int (badL ls h : Nat)) := by
  have h1 := w.n1
  refine defM_rt ?_
  show sRet _ [some (.dat (webD n ls))] = _
  exact sRet_ok (f2_ok (m2_ok (by rfl) (by rfl) dIx_tup1) (f1_ok (by rfl) e) (bad_val w (by have := hal_hlen hm; omega)))
end K70
set_option Elab.async false
set_option linter.all false
set_option maxRecDepth 100000
set_option maxHeartbeats 4000000
namespace K70
open PySem PySem.Spec PyProof.Rows L2 LamX FL
/-! ### choices of nodes -/
def sub : Nat → List (List Int)
  | 0 => [[]]
  | k + 1 => sub k ++ (sub k).map fun s => s ++ [((k : Nat) : Int)]
theorem sub_succ (k : Nat) : sub (k + 1) = sub k ++ (sub k).map fun s => s ++ [((k : Nat) : Int)] := rfl
theorem dcE (a b : Nat) : decide (((a : Nat) : Int) = ((b : Nat) : Int)) = decide (a = b) := decide_eq_decide.mpr (by omega)
theorem dcL (a b : Nat) : decide (((a : Nat) : Int) < ((b : Nat) : Int)) = decide (a < b) := decide_eq_decide.mpr (by omega)
theorem sub_len : ∀ k, (sub k).length = 2 ^ k
  | 0 => rfl
  | k + 1 => by
    unfold sub
    rw [List.length_append, List.length_map, sub_len k, Nat.pow_succ]
    omega
theorem sub_le {k : Nat} (h : k ≤ 7) : (sub k).length ≤ 128 := by
  rw [sub_len]
  exact Nat.pow_le_pow_right (n := 2) (by omega) h
theorem sub_mem : ∀ {k : Nat} {s : List Int}, s ∈ sub k → (∀ x ∈ s, 0 ≤ x ∧ x < (k : Int)) ∧ s.Pairwise (· < ·) ∧ s.length ≤ k
  | 0, s, h => by
    unfold sub at h
    rw [List.mem_singleton] at h
    subst h
    exact ⟨fun x hx => (by cases hx), List.Pairwise.nil, Nat.le_refl _⟩
  | k + 1, s, h => by
    unfold sub at h
    rcases List.mem_append.mp h with h | h
    · obtain ⟨h1, h2, h3⟩ := sub_mem h
      exact ⟨fun x hx => by have := h1 x hx; omega, h2, by omega⟩
    · obtain ⟨t, ht, rfl⟩ := List.mem_map.mp h
      obtain ⟨h1, h2, h3⟩ := sub_mem ht
      refine ⟨fun x hx => ?_, List.pairwise_append.mpr ⟨h2, List.pairwise_singleton _ _, fun a ha b hb => ?_⟩, by rw [List.length_append, List.length_singleton]; omega⟩
      · rcases List.mem_append.mp hx with z | z
        · have := h1 x z; omega
        · rw [List.mem_singleton] at z; omega
      · rw [List.mem_singleton] at hb
        have := h1 a ha
        omega
def cho (n c : Nat) : List (List Int) := (sub n).filter fun s => decide (s.length = c)
theorem cho_mem {n c : Nat} {s : List Int} (h : s ∈ cho n c) : s ∈ sub n ∧ s.length = c := by
  unfold cho at h
  rw [List.mem_filter, decide_eq_true_iff] at h
  exact h
theorem cho_64 : ∀ n, n ≤ 7 → ∀ c, c ≤ 7 → (cho n c).length < 64 := by
  have h : ∀ n, n < 8 → ∀ c, c < 8 → (cho n c).length < 64 := by decide +kernel
  exact fun n hn c hc => h n (by omega) c (by omega)
theorem cho_zero : ∀ n, n ≤ 7 → cho n 0 = [[]] := by
  have h : ∀ n, n < 8 → cho n 0 = [[]] := by decide +kernel
  exact fun n hn => h n (by omega)
theorem dAdd_hl (w : List Int) (x : Int) (h : w.length ≤ 1000) : dAdd (hD w) (.lst [.int x]) = .ok (hD (w ++ [x])) := by
  unfold hD
  rw [dAdd_lst (by rw [List.length_map]; unfold LIM; simp; omega), List.map_append]
  rfl
theorem choices_val (n c : Nat) (hn : n ≤ 7) : m_L_choices [.int (n : Nat), .int (c : Nat)] = .ok (hsD (cho n c)) := by
  have G : Goes (sFor (.nm 3) (mI rng1 (mCons (mVar 0) (mNil))) (sSet 2 (m2 dAdd (mVar 2) (mComp [4] (.nm 4) (mItems (mVar 2)) (tYesM) (m2 dAdd (mVar 4) (mN dLst (mCons (mVar 3) (mNil))))))))
      [some (.dat (.int (n : Nat))), some (.dat (.int (c : Nat))), some (.dat (hsD (sub 0))), none, none] (fun Γ => ∃ a : Option Sl, Γ = [some (.dat (.int (n : Nat))), some (.dat (.int (c : Nat))), some (.dat (hsD (sub n))), a, none]) := by
    refine Goes.range (n := n) (fun j Γ => ∃ a : Option Sl, Γ = [some (.dat (.int (n : Nat))), some (.dat (.int (c : Nat))), some (.dat (hsD (sub j))), a, none]) (mI_ok (a1_ok (by rfl)) (rng1_nat (by omega))) ⟨none, rfl⟩ ?_
    rintro j Γ hj ⟨a, rfl⟩
    simp only [List.set_cons_zero, List.set_cons_succ]
    have hl := sub_le (k := j) (by omega)
    refine .end (sSet_ok (d := hsD (sub (j + 1))) (m2_ok (by rfl) (mComp_all hD (fun s => hD (s ++ [((j : Nat) : Int)])) (by rfl) (fun s hs => ⟨_, rfl, m2_ok (by rfl) (mN_ok (a1_ok (by rfl)) (by rfl)) (dAdd_hl s _ (by have := (sub_mem hs).2.2; omega))⟩) (by unfold LIM; omega)) ?_)) ⟨_, rfl⟩
    unfold hsD
    rw [dAdd_lst (by rw [List.length_map, List.length_map]; unfold LIM; omega)]
    rw [sub_succ, List.map_append, List.map_map]
    rfl
  obtain ⟨Γ', hG, a, rfl⟩ := G
  refine defM_rt ?_
  show sSeq _ _ [some (.dat (.int (n : Nat))), some (.dat (.int (c : Nat))), none, none, none] = _
  rw [sSeq_nx (Γ' := [some (.dat (.int (n : Nat))), some (.dat (.int (c : Nat))), some (.dat (hsD (sub 0))), none, none]) (by rfl), sSeq_nx hG]
  have hl := sub_le (k := n) (by omega)
  refine sRet_ok (mComp_ok hD (fun s => decide (s.length = c)) hD (by rfl) (fun s hs => ⟨_, rfl, ?_, fun _ => by rfl⟩) (by unfold LIM; omega))
  refine mT_ok ((m2_ok (b1_ok (by rfl) (show dLen (hD s) = .ok (.int ((s.map D.int).length : Nat)) from rfl)) (by rfl) (dEq_int _ _)).trans ?_)
  rw [List.length_map, dcE]
theorem dAdd_tw (w : List Int) (x : Int) (h : w.length ≤ 1000) : dAdd (wD w) (.tup [.int x]) = .ok (wD (w ++ [x])) := by
  show (if (w.map D.int).length + [D.int x].length ≤ LIM then Out.ok (D.tup (w.map D.int ++ [D.int x])) else .bad) = _
  rw [if_pos (by rw [List.length_map]; unfold LIM; simp; omega)]
  unfold wD
  rw [List.map_append]
  rfl
theorem filt_lt (c : Nat) (l : List (List Int)) : (l.filter fun s => decide (s.length ≤ c)).filter (fun s => decide (s.length < c)) = l.filter fun s => decide (s.length < c) := by
  rw [List.filter_filter]
  congr 1
  funext s
  by_cases h : s.length < c
  · rw [decide_eq_true h, decide_eq_true (show s.length ≤ c by omega)]
    rfl
  · rw [decide_eq_false h]
    rfl
theorem filt_map (c k : Nat) (l : List (List Int)) : (l.map fun s => s ++ [((k : Nat) : Int)]).filter (fun s => decide (s.length ≤ c)) = (l.filter fun s => decide (s.length < c)).map fun s => s ++ [((k : Nat) : Int)] := by
  rw [List.filter_map]
  congr 1
  congr 1
  funext s
  show decide ((s ++ [((k : Nat) : Int)]).length ≤ c) = _
  rw [List.length_append, List.length_singleton]
  exact decide_eq_decide.mpr (by omega)
def srtC (n c : Nat) : List (List Int) := if (cho n c).length ≤ 1 then cho n c else srtW (cho n c)
theorem srtC_perm (n c : Nat) : (srtC n c).Perm (cho n c) := by
  unfold srtC
  split
  · exact List.Perm.refl _
  · exact srtW_perm _
theorem sort_cho (n c : Nat) (hn : n ≤ 7) (hc : c ≤ 7) : dSortW (.lst ((cho n c).map wD)) = .ok (.lst ((srtC n c).map wD)) := by
  show sortWL ((cho n c).map wD) = _
  unfold sortWL srtC
  rw [List.length_map]
  by_cases h : (cho n c).length ≤ 1
  · rw [if_pos h, if_pos h]
  · rw [if_neg h, if_neg h]
    have e : toWs ((cho n c).map wD) = some (cho n c) := toWs_map (cho n c)
    rw [e]
    dsimp only
    rw [if_pos]
    · rfl
    · rw [Bool.and_eq_true, decide_eq_true_iff]
      refine ⟨cho_64 n hn c hc, ?_⟩
      have hc1 : 1 ≤ c := by
        by_cases z : c = 0
        · subst z
          rw [cho_zero n hn] at h
          exact absurd (Nat.le_refl 1) h
        · omega
      have h0 : ((cho n c).getD 0 []).length = c := by
        have hp : 0 < (cho n c).length := by omega
        have : (cho n c).getD 0 [] ∈ cho n c := by simp [List.getD, hp]
        exact (cho_mem this).2
      unfold okWs
      rw [h0, Bool.and_eq_true, decide_eq_true_iff, List.all_eq_true]
      refine ⟨hc1, fun s hs => ?_⟩
      have hm := cho_mem hs
      rw [Bool.and_eq_true, decide_eq_true_iff, List.all_eq_true]
      refine ⟨hm.2, fun x hx => ?_⟩
      have := (sub_mem hm.1).1 x hx
      rw [Bool.and_eq_true, decide_eq_true_iff, decide_eq_true_iff]
      unfold CB
      omega
theorem looks_val (n c : Nat) (hn : n ≤ 7) (hc : c ≤ 7) : m_all_looks [.int (n : Nat), .int (c : Nat)] = .ok (.lst ((srtC n c).map wD)) := by
  have G : Goes (sFor (.nm 3) (mI rng1 (mCons (mVar 0) (mNil))) (sSet 2 (m2 dAdd (mVar 2) (mComp [4] (.nm 4) (mItems (mVar 2)) (mT (m2 dLt (mN (c1 dLen) (mCons (mVar 4) (mNil))) (mVar 1))) (m2 dAdd (mVar 4) (mN dTup (mCons (mVar 3) (mNil))))))))
      [some (.dat (.int (n : Nat))), some (.dat (.int (c : Nat))), some (.dat (.lst (((sub 0).filter fun s => decide (s.length ≤ c)).map wD))), none, none] (fun Γ => ∃ a : Option Sl, Γ = [some (.dat (.int (n : Nat))), some (.dat (.int (c : Nat))), some (.dat (.lst (((sub n).filter fun s => decide (s.length ≤ c)).map wD))), a, none]) := by
    refine Goes.range (n := n) (fun j Γ => ∃ a : Option Sl, Γ = [some (.dat (.int (n : Nat))), some (.dat (.int (c : Nat))), some (.dat (.lst (((sub j).filter fun s => decide (s.length ≤ c)).map wD))), a, none]) (mI_ok (a1_ok (by rfl)) (rng1_nat (by omega))) ⟨none, rfl⟩ ?_
    rintro j Γ hj ⟨a, rfl⟩
    simp only [List.set_cons_zero, List.set_cons_succ]
    have hl := sub_le (k := j) (by omega)
    have hl2 : ((sub j).filter fun s => decide (s.length ≤ c)).length ≤ 128 := Nat.le_trans (List.length_filter_le _ _) hl
    refine .end (sSet_ok (d := .lst (((sub (j + 1)).filter fun s => decide (s.length ≤ c)).map wD)) (m2_ok (by rfl) (mComp_ok wD (fun s => decide (s.length < c)) (fun s => wD (s ++ [((j : Nat) : Int)])) (by rfl) (fun s hs => ⟨_, rfl, ?_, fun _ => m2_ok (by rfl) (mN_ok (a1_ok (by rfl)) (by rfl)) (dAdd_tw s _ (by have := (sub_mem (List.mem_filter.mp hs).1).2.2; omega))⟩) (by unfold LIM; omega)) ?_)) ⟨_, rfl⟩
    · refine mT_ok ((m2_ok (b1_ok (by rfl) (len_wD s)) (by rfl) (dLt_int _ _)).trans ?_)
      rw [dcL]
    · rw [filt_lt, dAdd_lst]
      · rw [sub_succ, List.filter_append, filt_map, List.map_append, List.map_map]
        rfl
      · rw [List.length_map, List.length_map]
        have := Nat.le_trans (List.length_filter_le (fun s : List Int => decide (s.length < c)) (sub j)) hl
        unfold LIM
        omega
  obtain ⟨Γ', hG, a, rfl⟩ := G
  refine defM_rt ?_
  show sSeq _ _ [some (.dat (.int (n : Nat))), some (.dat (.int (c : Nat))), none, none, none] = _
  rw [sSeq_nx (Γ' := [some (.dat (.int (n : Nat))), some (.dat (.int (c : Nat))), some (.dat (.lst (((sub 0).filter fun s => decide (s.length ≤ c)).map wD))), none, none]) (by rfl), sSeq_nx hG]
  have hl := sub_le (k := n) (by omega)
  have hl2 : ((sub n).filter fun s => decide (s.length ≤ c)).length ≤ 128 := Nat.le_trans (List.length_filter_le _ _) hl
  refine sRet_ok (b1_ok (x := .lst ((cho n c).map wD)) ?_ (sort_cho n c hn hc))
  have e : cho n c = ((sub n).filter fun s => decide (s.length ≤ c)).filter fun s => decide (s.length = c) := by
    unfold cho
    rw [List.filter_filter]
    refine List.filter_congr fun s _ => ?_
    by_cases h : s.length = c
    · rw [decide_eq_true h, decide_eq_true (show s.length ≤ c by omega)]
      rfl
    · rw [decide_eq_false h]
      rfl
  rw [e]
  refine mComp_ok wD (fun s => decide (s.length = c)) wD (by rfl) (fun s hs => ⟨_, rfl, ?_, fun _ => by rfl⟩) (by unfold LIM; omega)
  refine mT_ok ((m2_ok (b1_ok (by rfl) (len_wD s)) (by rfl) (dEq_int _ _)).trans ?_)
  rw [dcE]
/-! ### with more nodes no less -/
def num (n c : Nat) (b : List Int → Bool) : Nat := ((sub n).filter fun s => decide (s.length = c) && b s).length
theorem num_filter (n c : Nat) (b : List Int → Bool) : ((cho n c).filter b).length = num n c b := by
  unfold cho num
  rw [List.filter_filter]
  congr 2
  funext s
  exact Bool.and_comm _ _
theorem num_all (n c : Nat) : (cho n c).length = num n c fun _ => true := by
  rw [← num_filter]
  congr 1
  exact (List.filter_eq_self.mpr fun _ _ => rfl).symm
theorem num_zero_zero (b : List Int → Bool) : num 0 0 b = if b [] = true then 1 else 0 := by
  unfold num sub
  by_cases h : b [] = true
  · rw [if_pos h]
    simp [h]
  · rw [if_neg h]
    simp [h]
theorem num_zero_succ (c : Nat) (b : List Int → Bool) : num 0 (c + 1) b = 0 := by
  unfold num sub
  simp
theorem num_s_zero (n : Nat) (b : List Int → Bool) : num (n + 1) 0 b = num n 0 b := by
  unfold num
  rw [sub, List.filter_append, List.length_append, List.filter_map, List.length_map]
  rw [show ((fun s => decide (s.length = 0) && b s) ∘ fun s => s ++ [((n : Nat) : Int)]) = fun _ => false from funext fun s => by simp [Function.comp]]
  simp
theorem num_s_succ (n c : Nat) (b : List Int → Bool) : num (n + 1) (c + 1) b = num n (c + 1) b + num n c fun s => b (s ++ [((n : Nat) : Int)]) := by
  unfold num
  rw [sub, List.filter_append, List.length_append, List.filter_map, List.length_map]
  congr 3
  funext s
  show (decide ((s ++ [((n : Nat) : Int)]).length = c + 1) && _) = _
  rw [List.length_append, List.length_singleton]
  congr 1
  exact decide_eq_decide.mpr (by omega)
theorem num_le {n c : Nat} {b b' : List Int → Bool} (h : ∀ s, b s = true → b' s = true) : num n c b ≤ num n c b' := by
  unfold num
  rw [← List.countP_eq_length_filter, ← List.countP_eq_length_filter]
  refine List.countP_mono_left fun s _ hs => ?_
  rw [Bool.and_eq_true] at hs ⊢
  exact ⟨hs.1, h s hs.2⟩
def Mono (b : List Int → Bool) : Prop := ∀ s t, (∀ x ∈ s, x ∈ t) → b s = true → b t = true
theorem num_up : ∀ (n c : Nat) (b : List Int → Bool), Mono b → (n - c) * num n c b ≤ (c + 1) * num n (c + 1) b
  | 0, c, b, _ => by simp
  | n + 1, 0, b, hb => by
    have ih := num_up n 0 b hb
    have h2 := num_le (n := n) (c := 0) (b := b) (b' := fun s => b (s ++ [((n : Nat) : Int)])) fun s hs => hb s _ (fun x hx => List.mem_append_left _ hx) hs
    rw [num_s_zero, num_s_succ]
    rw [show n + 1 - 0 = (n - 0) + 1 by omega, Nat.add_mul]
    simp only [Nat.zero_add, Nat.one_mul] at ih ⊢
    omega
  | n + 1, c + 1, b, hb => by
    have ih0 := num_up n (c + 1) b hb
    have ih1 := num_up n c (fun s => b (s ++ [((n : Nat) : Int)])) (fun s t h hs => hb _ _ (fun x hx => by
      rcases List.mem_append.mp hx with z | z
      · exact List.mem_append_left _ (h x z)
      · exact List.mem_append_right _ z) hs)
    have h2 := num_le (n := n) (c := c + 1) (b := b) (b' := fun s => b (s ++ [((n : Nat) : Int)])) fun s hs => hb s _ (fun x hx => List.mem_append_left _ hx) hs
    rw [num_s_succ, num_s_succ]
    generalize hA : num n (c + 1) b = A at *
    generalize hB : num n c (fun s => b (s ++ [((n : Nat) : Int)])) = B at *
    generalize hC : num n (c + 1 + 1) b = C at *
    generalize hE : num n (c + 1) (fun s => b (s ++ [((n : Nat) : Int)])) = F at *
    by_cases hcn : c + 1 ≤ n
    · obtain ⟨k, rfl⟩ : ∃ k, n = c + 1 + k := ⟨n - (c + 1), by omega⟩
      rw [show c + 1 + k - (c + 1) = k by omega] at ih0
      rw [show c + 1 + k - c = k + 1 by omega] at ih1
      rw [show c + 1 + k + 1 - (c + 1) = k + 1 by omega]
      have e1 : (k + 1) * (A + B) = k * A + A + (k + 1) * B := by rw [Nat.mul_add, Nat.add_mul k 1 A, Nat.one_mul]
      have e2 : (c + 1 + 1) * (C + F) = (c + 1 + 1) * C + ((c + 1) * F + F) := by rw [Nat.mul_add, Nat.add_mul (c + 1) 1 F, Nat.one_mul]
      omega
    · by_cases hc2 : n = c
      · subst hc2
        rw [show n - n = 0 by omega, Nat.zero_mul] at ih1
        rw [show n + 1 - (n + 1) = 0 by omega, Nat.zero_mul]
        omega
      · rw [show n + 1 - (c + 1) = 0 by omega, Nat.zero_mul]
        omega
theorem num_eq : ∀ (n c : Nat), c ≤ n → (n - c) * num n c (fun _ => true) = (c + 1) * num n (c + 1) (fun _ => true)
  | 0, 0, _ => by
    rw [num_zero_succ]
    simp
  | n + 1, 0, _ => by
    have ih := num_eq n 0 (by omega)
    rw [num_s_zero, num_s_succ]
    rw [show n + 1 - 0 = (n - 0) + 1 by omega, Nat.add_mul]
    simp only [Nat.zero_add, Nat.one_mul] at ih ⊢
    omega
  | n + 1, c + 1, hc => by
    by_cases hcn : c + 1 ≤ n
    · have ih0 := num_eq n (c + 1) hcn
      have ih1 := num_eq n c (by omega)
      rw [num_s_succ, num_s_succ]
      generalize hA : num n (c + 1) (fun _ => true) = A at *
      generalize hB : num n c (fun _ => true) = B at *
      generalize hC : num n (c + 1 + 1) (fun _ => true) = C at *
      obtain ⟨k, rfl⟩ : ∃ k, n = c + 1 + k := ⟨n - (c + 1), by omega⟩
      rw [show c + 1 + k - (c + 1) = k by omega] at ih0
      rw [show c + 1 + k - c = k + 1 by omega] at ih1
      rw [show c + 1 + k + 1 - (c + 1) = k + 1 by omega]
      have e1 : (k + 1) * (A + B) = k * A + A + (k + 1) * B := by rw [Nat.mul_add, Nat.add_mul k 1 A, Nat.one_mul]
      have e2 : (c + 1 + 1) * (C + A) = (c + 1 + 1) * C + ((c + 1) * A + A) := by rw [Nat.mul_add, Nat.add_mul (c + 1) 1 A, Nat.one_mul]
      omega
    · obtain rfl : n = c := by omega
      have z : ∀ m k, m < k → num m k (fun _ => true) = 0 := fun m k h => by
        unfold num
        rw [List.filter_eq_nil_iff.mpr fun s hs => ?_]
        · rfl
        · have := (sub_mem hs).2.2
          rw [Bool.and_true, decide_eq_true_iff]
          omega
      rw [z (n + 1) (n + 1 + 1) (by omega), show n + 1 - (n + 1) = 0 by omega]
      simp
end K70
set_option Elab.async false
set_option linter.all false
set_option maxRecDepth 100000
set_option maxHeartbeats 4000000
namespace K70
open PySem PySem.Spec PyProof.Rows L2 LamX FL
/-! ### the search: plain part -/
def lk (dd : List (Int × Int)) (k : Int) : Option Int := (dd.find? fun p => decide (p.1 = k)).map (·.2)
theorem lk_cons (p : Int × Int) (r : List (Int × Int)) (k : Int) : lk (p :: r) k = if p.1 = k then some p.2 else lk r k := by
  unfold lk
  rw [List.find?_cons]
  by_cases h : p.1 = k
  · simp [h]
  · simp [h]
theorem lk_snoc {k v : Int} : ∀ {dd : List (Int × Int)} (j : Int), lk (dd ++ [(k, v)]) j = match lk dd j with | some x => some x | none => if k = j then some v else none
  | [], j => by
    rw [List.nil_append, lk_cons]
    rfl
  | p :: dd, j => by
    rw [List.cons_append, lk_cons, lk_cons, lk_snoc j]
    by_cases h : p.1 = j
    · rw [if_pos h, if_pos h]
    · rw [if_neg h, if_neg h]
theorem lk_old {dd : List (Int × Int)} {k v j x : Int} (h : lk dd j = some x) : lk (dd ++ [(k, v)]) j = some x := by
  rw [lk_snoc, h]
theorem lk_new {dd : List (Int × Int)} {k v : Int} (h : lk dd k = none) : lk (dd ++ [(k, v)]) k = some v := by
  rw [lk_snoc, h]
  simp
theorem lk_back {dd : List (Int × Int)} {k v j x : Int} (h : lk (dd ++ [(k, v)]) j = some x) : lk dd j = some x ∨ (lk dd j = none ∧ j = k ∧ x = v) := by
  rw [lk_snoc] at h
  cases e : lk dd j with
  | some y =>
    rw [e] at h
    exact .inl h
  | none =>
    rw [e] at h
    by_cases z : k = j
    · simp only [z, if_true] at h
      exact .inr ⟨rfl, z.symm, (Option.some.inj h).symm⟩
    · simp only [z, if_false] at h
      cases h
theorem lk_key : ∀ {dd : List (Int × Int)} {k : Int}, k ∈ dd.map (·.1) ↔ lk dd k ≠ none
  | [], k => by simp [lk]
  | p :: dd, k => by
    rw [List.map_cons, List.mem_cons, lk_cons, lk_key]
    by_cases h : p.1 = k
    · simp [h]
    · rw [if_neg h]
      constructor
      · rintro (z | z)
        · exact absurd z.symm h
        · exact z
      · exact .inr
theorem sub_length : ∀ {l m : List Int}, l.Nodup → (∀ x ∈ l, x ∈ m) → l.length ≤ m.length
  | [], m, _, _ => Nat.zero_le _
  | x :: l, m, hn, h => by
    rw [List.nodup_cons] at hn
    have ih := sub_length (l := l) (m := m.erase x) hn.2 (fun y hy => by
      have hxy : y ≠ x := fun z => hn.1 (z ▸ hy)
      exact (List.mem_erase_of_ne hxy).mpr (h y (List.mem_cons_of_mem _ hy)))
    have hx := h x List.mem_cons_self
    rw [List.length_erase_of_mem hx] at ih
    have := List.length_pos_of_mem hx
    rw [List.length_cons]
    omega
def Proper (ls : List (Int × Int)) (nodes : List Int) (f : Int → Int) : Prop := (∀ k, f k = 0 ∨ f k = 1) ∧ ∀ p ∈ ls, p.1 ∈ nodes → p.2 ∈ nodes → f p.1 ≠ f p.2
def Tch (nodes : List Int) (p : Int × Int) (u : Int) : Prop := (p.1 = u ∨ p.2 = u) ∧ p.1 ∈ nodes ∧ p.2 ∈ nodes
def Done (ls : List (Int × Int)) (nodes : List Int) (dd : List (Int × Int)) (u : Int) : Prop := ∀ p ∈ ls, Tch nodes p u → ∃ v, lk dd u = some v ∧ lk dd (p.1 + p.2 - u) = some (1 - v)
structure J (ls : List (Int × Int)) (nodes : List Int) (dd : List (Int × Int)) (W : List Int) (cur : Option Int) : Prop where
  sb : ∀ k v, lk dd k = some v → k ∈ nodes ∧ (v = 0 ∨ v = 1)
  wait : ∀ u ∈ W, ∃ v, lk dd u = some v
  nd : (dd.map (·.1)).Nodup
  ext : (∃ f, Proper ls nodes f) → ∃ g, Proper ls nodes g ∧ ∀ k v, lk dd k = some v → g k = v
  cl : ∀ u v, lk dd u = some v → u ∉ W → some u ≠ cur → Done ls nodes dd u
variable {ls : List (Int × Int)} {nodes : List Int} {dd : List (Int × Int)} {W : List Int} {cur : Option Int}
theorem Done.old {k v u : Int} (h : Done ls nodes dd u) : Done ls nodes (dd ++ [(k, v)]) u := fun p hp ht => by
  obtain ⟨x, h1, h2⟩ := h p hp ht
  exact ⟨x, lk_old h1, lk_old h2⟩
theorem J.size (j : J ls nodes dd W cur) : dd.length ≤ nodes.length := by
  have := sub_length j.nd (fun x hx => by
    rw [lk_key] at hx
    cases e : lk dd x with
    | none => exact absurd e hx
    | some v => exact (j.sb x v e).1)
  rw [List.length_map] at this
  exact this
theorem nodup_snoc {k v : Int} (h : (dd.map (·.1)).Nodup) (hk : lk dd k = none) : ((dd ++ [(k, v)]).map (·.1)).Nodup := by
  rw [List.map_append]
  refine List.nodup_append.mpr ⟨h, by simp, fun a ha b hb => ?_⟩
  simp only [List.map_cons, List.map_nil, List.mem_singleton] at hb
  rintro rfl
  subst hb
  exact lk_key.mp ha hk
/-- a new node behind the one that is looked at -/
theorem J.add {node v : Int} {p : Int × Int} (hlt : ∀ p ∈ ls, p.1 < p.2) (j : J ls nodes dd W (some node)) (hv : lk dd node = some v) (hp : p ∈ ls) (ht : Tch nodes p node) (hn : lk dd (p.1 + p.2 - node) = none) :
    J ls nodes (dd ++ [(p.1 + p.2 - node, 1 - v)]) (W ++ [p.1 + p.2 - node]) (some node) where
  sb := fun k x h => by
    rcases lk_back h with h | ⟨_, rfl, rfl⟩
    · exact j.sb k x h
    · have := (j.sb node v hv).2
      obtain ⟨h1, h2, h3⟩ := ht
      refine ⟨?_, by omega⟩
      rcases h1 with rfl | rfl
      · rw [show p.1 + p.2 - p.1 = p.2 by omega]
        exact h3
      · rw [show p.1 + p.2 - p.2 = p.1 by omega]
        exact h2
  wait := fun u hu => by
    rcases List.mem_append.mp hu with hu | hu
    · obtain ⟨x, hx⟩ := j.wait u hu
      exact ⟨x, lk_old hx⟩
    · rw [List.mem_singleton] at hu
      rw [hu]
      exact ⟨_, lk_new hn⟩
  nd := nodup_snoc j.nd hn
  ext := fun hf => by
    obtain ⟨g, hg, hgd⟩ := j.ext hf
    refine ⟨g, hg, fun k x h => ?_⟩
    rcases lk_back h with h | ⟨_, rfl, rfl⟩
    · exact hgd k x h
    · have h1 := hgd node v hv
      have h2 := hg.2 p hp ht.2.1 ht.2.2
      rcases ht.1 with e | e
      · rw [show p.1 + p.2 - node = p.2 by omega]
        rw [e, h1] at h2
        have := hg.1 p.2
        have := (j.sb node v hv).2
        omega
      · rw [show p.1 + p.2 - node = p.1 by omega]
        rw [e, h1] at h2
        have := hg.1 p.1
        have := (j.sb node v hv).2
        omega
  cl := fun u x h hw hc => by
    rcases lk_back h with h | ⟨_, rfl, rfl⟩
    · exact (j.cl u x h (fun z => hw (List.mem_append_left _ z)) hc).old
    · exact absurd (List.mem_append_right _ (List.mem_singleton.mpr rfl)) hw
theorem J.no {node v : Int} {p : Int × Int} (j : J ls nodes dd W cur) (hv : lk dd node = some v) (hp : p ∈ ls) (ht : Tch nodes p node) (hn : lk dd (p.1 + p.2 - node) = some v) : ¬ ∃ f, Proper ls nodes f := fun hf => by
  obtain ⟨g, hg, hgd⟩ := j.ext hf
  have h1 := hgd _ _ hv
  have h2 := hgd _ _ hn
  have h3 := hg.2 p hp ht.2.1 ht.2.2
  rcases ht.1 with e | e
  · rw [show p.1 + p.2 - node = p.2 by omega] at h2
    rw [e] at h3
    omega
  · rw [show p.1 + p.2 - node = p.1 by omega] at h2
    rw [e] at h3
    omega
theorem J.done {node v : Int} (j : J ls nodes dd W (some node)) (hv : lk dd node = some v) (h : ∀ p ∈ ls, Tch nodes p node → lk dd (p.1 + p.2 - node) = some (1 - v)) : J ls nodes dd W none where
  sb := j.sb
  wait := j.wait
  nd := j.nd
  ext := j.ext
  cl := fun u x hx hw _ => by
    by_cases e : u = node
    · subst e
      exact fun p hp ht => ⟨v, hv, h p hp ht⟩
    · exact j.cl u x hx hw (fun z => e (Option.some.inj z))
theorem J.pop {node : Int} (j : J ls nodes dd (W ++ [node]) none) : J ls nodes dd W (some node) where
  sb := j.sb
  wait := fun u hu => j.wait u (List.mem_append_left _ hu)
  nd := j.nd
  ext := j.ext
  cl := fun u x hx hw hc => j.cl u x hx (fun z => by
    rcases List.mem_append.mp z with z | z
    · exact hw z
    · rw [List.mem_singleton] at z
      exact hc (by rw [z])) (fun z => by cases z)
/-- a new beginning -/
theorem J.begin {b : Int} (j : J ls nodes dd [] none) (hb : b ∈ nodes) (hn : lk dd b = none) : J ls nodes (dd ++ [(b, 0)]) [b] none where
  sb := fun k x h => by
    rcases lk_back h with h | ⟨_, rfl, rfl⟩
    · exact j.sb k x h
    · exact ⟨hb, .inl rfl⟩
  wait := fun u hu => by
    rw [List.mem_singleton] at hu
    rw [hu]
    exact ⟨_, lk_new hn⟩
  nd := nodup_snoc j.nd hn
  ext := fun hf => by
    obtain ⟨g, hg, hgd⟩ := j.ext hf
    rcases hg.1 b with h0 | h0
    · refine ⟨g, hg, fun k x h => ?_⟩
      rcases lk_back h with h | ⟨_, rfl, rfl⟩
      · exact hgd k x h
      · exact h0
    · have cl : ∀ u v, lk dd u = some v → Done ls nodes dd u := fun u v h => j.cl u v h (by simp) (fun z => by cases z)
      refine ⟨fun k => if lk dd k = none then 1 - g k else g k, ⟨fun k => ?_, fun p hp h1 h2 => ?_⟩, fun k x h => ?_⟩
      · have := hg.1 k
        by_cases z : lk dd k = none
        · simp only [z, if_true]; omega
        · simp only [z, if_false]; exact this
      · have h3 := hg.2 p hp h1 h2
        have q1 := hg.1 p.1
        have q2 := hg.1 p.2
        simp only
        by_cases z1 : lk dd p.1 = none
        · by_cases z2 : lk dd p.2 = none
          · rw [if_pos z1, if_pos z2]; omega
          · exfalso
            cases e : lk dd p.2 with
            | none => exact z2 e
            | some v =>
              obtain ⟨x, _, hx⟩ := cl p.2 v e p hp ⟨.inr rfl, h1, h2⟩
              rw [show p.1 + p.2 - p.2 = p.1 by omega, z1] at hx
              cases hx
        · by_cases z2 : lk dd p.2 = none
          · exfalso
            cases e : lk dd p.1 with
            | none => exact z1 e
            | some v =>
              obtain ⟨x, _, hx⟩ := cl p.1 v e p hp ⟨.inl rfl, h1, h2⟩
              rw [show p.1 + p.2 - p.1 = p.2 by omega, z2] at hx
              cases hx
          · rw [if_neg z1, if_neg z2]; exact h3
      · rcases lk_back h with h | ⟨_, rfl, rfl⟩
        · simp only [h, reduceCtorEq, if_false]
          exact hgd k x h
        · simp only [hn, if_true]
          omega
  cl := fun u x h hw hc => by
    rcases lk_back h with h | ⟨_, rfl, rfl⟩
    · exact (j.cl u x h (by simp) hc).old
    · exact absurd (List.mem_singleton.mpr rfl) hw
theorem J.yes (j : J ls nodes dd [] none) (h : ∀ b ∈ nodes, lk dd b ≠ none) : ∃ f, Proper ls nodes f := by
  refine ⟨fun k => (lk dd k).getD 0, fun k => ?_, fun p hp h1 h2 => ?_⟩
  · show (lk dd k).getD 0 = 0 ∨ (lk dd k).getD 0 = 1
    cases e : lk dd k with
    | none => exact .inl rfl
    | some v => exact (j.sb k v e).2
  · show (lk dd p.1).getD 0 ≠ (lk dd p.2).getD 0
    cases e : lk dd p.1 with
    | none => exact absurd e (h _ h1)
    | some v =>
      obtain ⟨x, q1, q2⟩ := j.cl p.1 v e (by simp) (fun z => by cases z) p hp ⟨.inl rfl, h1, h2⟩
      rw [e] at q1
      cases q1
      rw [show p.1 + p.2 - p.1 = p.2 by omega] at q2
      have := (j.sb _ _ e).2
      rw [q2, Option.getD_some, Option.getD_some]
      omega
theorem J.start : J ls nodes [] [] none where
  sb := fun k v h => (by cases h)
  wait := fun u hu => (by cases hu)
  nd := List.nodup_nil
  ext := fun hf => by
    obtain ⟨f, hf⟩ := hf
    exact ⟨f, hf, fun k v h => (by cases h)⟩
  cl := fun u v h => (by cases h)
end K70
set_option Elab.async false
set_option linter.all false
set_option maxRecDepth 100000
set_option maxHeartbeats 4000000
namespace K70
open PySem PySem.Spec PyProof.Rows L2 LamX FL
def enc (dd : List (Int × Int)) : List (L2.Key × D) := dd.map fun p => (Sum.inl p.1, D.int p.2)
theorem getK_enc (k : Int) : ∀ dd : List (Int × Int), getK (enc dd) (.inl k) = (lk dd k).map D.int
  | [] => rfl
  | p :: dd => by
    show getK ((Sum.inl p.1, D.int p.2) :: enc dd) (.inl k) = _
    rw [getK_cons, lk_cons, getK_enc k dd]
    by_cases h : p.1 = k
    · rw [if_pos h, if_pos (by rw [h])]
      rfl
    · rw [if_neg h, if_neg (fun z => h (Sum.inl.inj z))]
theorem any_enc (k : Int) : ∀ dd : List (Int × Int), ((enc dd).any fun kv => decide (kv.1 = Sum.inl k)) = (lk dd k).isSome
  | [] => rfl
  | p :: dd => by
    show (decide (Sum.inl p.1 = (Sum.inl k : L2.Key)) || (enc dd).any fun kv => decide (kv.1 = Sum.inl k)) = _
    rw [any_enc k dd, lk_cons]
    by_cases h : p.1 = k
    · rw [if_pos h, h, decide_eq_true rfl]
      rfl
    · rw [if_neg h, decide_eq_false (fun z => h (Sum.inl.inj z))]
      rfl
theorem setK_enc {dd : List (Int × Int)} {k v : Int} (h : lk dd k = none) : setK (enc dd) (.inl k) (.int v) = enc (dd ++ [(k, v)]) := by
  unfold setK
  rw [any_enc, h]
  unfold enc
  rw [List.map_append]
  rfl
theorem in_tup (a : Int) (ns : List Int) : dIn (.int a) (wD ns) = .ok (.bl (decide (a ∈ ns))) := by
  unfold dIn
  rw [if_pos]
  · unfold inD seqD wD
    simp only
    rw [List.any_map]
    congr 2
    rw [Bool.eq_iff_iff, List.any_eq_true, decide_eq_true_iff]
    constructor
    · rintro ⟨x, hx, e⟩
      have : x = a := by simpa [Function.comp, eqv_int] using e
      rw [← this]
      exact hx
    · intro h
      exact ⟨a, h, by simp [Function.comp, eqv_int]⟩
  · show (flat (.int a) && (ns.map D.int).all flat) = true
    rw [Bool.and_eq_true]
    refine ⟨rfl, ?_⟩
    rw [List.all_map, List.all_eq_true]
    exact fun _ _ => rfl
theorem in_ln (a : Int) (p : Int × Int) : dIn (.int a) (lnD p) = .ok (.bl (decide (p.1 = a ∨ p.2 = a))) := by
  have h := in_tup a [p.1, p.2]
  refine Eq.trans (show dIn (.int a) (lnD p) = dIn (.int a) (wD [p.1, p.2]) from rfl) (h.trans ?_)
  congr 2
  refine decide_eq_decide.mpr ?_
  simp only [List.mem_cons, List.not_mem_nil, or_false]
  omega
def lineB : FL.Env → SO := (sIf (tAndM (mT (m2 dIn (mVar 5) (mVar 6))) (tAndM (mT (m2 dIn (m2 dIx (mVar 6) (mC (.int 0))) (mVar 1))) (mT (m2 dIn (m2 dIx (mVar 6) (mC (.int 1))) (mVar 1))))) (sSeq (sSet 7 (m2 dSub (m2 dAdd (m2 dIx (mVar 6) (mC (.int 0))) (m2 dIx (mVar 6) (mC (.int 1)))) (mVar 5))) (sIf (mT (mDct 2 (mVar 7) fNotIn)) (sSeq (sDSet 2 (mVar 7) (m2 dSub (mC (.int 1)) (mDct 2 (mVar 5) fGet))) (sApp 4 (mVar 7))) (sIf (mT (m2 dEq (mDct 2 (mVar 7) fGet) (mDct 2 (mVar 5) fGet))) (sRet (mC (.bl false))) (sNext)))) (sNext))
section
variable {ls : List (Int × Int)} {nodes : List Int}
def Ev (ls : List (Int × Int)) (nodes : List Int) (dd : List (Int × Int)) (x3 : Option Sl) (W : List Int) (x5 x6 x7 : Option Sl) : FL.Env := [some (.dat (lsD ls)), some (.dat (wD nodes)), some (.dct (enc dd)), x3, some (.own (W.map D.int)), x5, x6, x7]
theorem get_ev {dd : List (Int × Int)} {W : List Int} {x3 x5 x6 x7 : Option Sl} {m : FL.Env → Out D} {k v : Int} (hm : m (Ev ls nodes dd x3 W x5 x6 x7) = .ok (.int k)) (h : lk dd k = some v) : mDct 2 m fGet (Ev ls nodes dd x3 W x5 x6 x7) = .ok (.int v) := by
  show (m (Ev ls nodes dd x3 W x5 x6 x7)).bind (fun y => match keyD y with | none => .bad | some k => fGet (enc dd) k) = _
  rw [hm]
  show fGet (enc dd) (.inl k) = _
  unfold fGet
  rw [getK_enc, h]
  rfl
theorem notin_ev {dd : List (Int × Int)} {W : List Int} {x3 x5 x6 x7 : Option Sl} {m : FL.Env → Out D} {k : Int} (hm : m (Ev ls nodes dd x3 W x5 x6 x7) = .ok (.int k)) : mT (mDct 2 m fNotIn) (Ev ls nodes dd x3 W x5 x6 x7) = .ok (!(lk dd k).isSome) := by
  refine mT_ok ?_
  show (m (Ev ls nodes dd x3 W x5 x6 x7)).bind (fun y => match keyD y with | none => .bad | some k => fNotIn (enc dd) k) = _
  rw [hm]
  show fNotIn (enc dd) (.inl k) = _
  unfold fNotIn
  rw [getK_enc, Option.isSome_map]
theorem set_ev {dd : List (Int × Int)} {W : List Int} {x3 x5 x6 x7 : Option Sl} {mk mv : FL.Env → Out D} {k v : Int} (hk : mk (Ev ls nodes dd x3 W x5 x6 x7) = .ok (.int k)) (hv : mv (Ev ls nodes dd x3 W x5 x6 x7) = .ok (.int v)) (h : lk dd k = none) (hl : dd.length ≤ 1000) : sDSet 2 mk mv (Ev ls nodes dd x3 W x5 x6 x7) = .nx (Ev ls nodes (dd ++ [(k, v)]) x3 W x5 x6 x7) := by
  show SO.ofO (mv (Ev ls nodes dd x3 W x5 x6 x7)) (fun d => SO.ofO (mk (Ev ls nodes dd x3 W x5 x6 x7)) fun y => match keyD y with | none => .bad | some k => if (enc dd).length < LIM then .nx ((Ev ls nodes dd x3 W x5 x6 x7).set 2 (some (.dct (setK (enc dd) k d)))) else .bad) = _
  rw [hv]
  show SO.ofO (mk (Ev ls nodes dd x3 W x5 x6 x7)) (fun y => match keyD y with | none => .bad | some k => if (enc dd).length < LIM then .nx ((Ev ls nodes dd x3 W x5 x6 x7).set 2 (some (.dct (setK (enc dd) k (.int v))))) else .bad) = _
  rw [hk]
  show (if (enc dd).length < LIM then SO.nx ((Ev ls nodes dd x3 W x5 x6 x7).set 2 (some (.dct (setK (enc dd) (.inl k) (.int v))))) else .bad) = _
  rw [if_pos (by unfold enc; rw [List.length_map]; unfold LIM; omega), setK_enc h]
  rfl
theorem app_ev {dd : List (Int × Int)} {W : List Int} {x3 x5 x6 x7 : Option Sl} {m : FL.Env → Out D} {k : Int} (hm : m (Ev ls nodes dd x3 W x5 x6 x7) = .ok (.int k)) (hl : W.length ≤ 1000) : sApp 4 m (Ev ls nodes dd x3 W x5 x6 x7) = .nx (Ev ls nodes dd x3 (W ++ [k]) x5 x6 x7) := by
  rw [sApp_ok (ds := W.map D.int) (d := .int k) (by rfl) hm (by rw [List.length_map]; unfold LIM; omega)]
  unfold Ev
  rw [List.map_append]
  rfl
/-- the lines, for one node -/
theorem lines_run (hlt : ∀ p ∈ ls, p.1 < p.2) (hn7 : nodes.length ≤ 100) {node v : Int} {x3 : Option Sl} : ∀ (ps qs : List (Int × Int)) (dd : List (Int × Int)) (W : List Int) (x6 x7 : Option Sl), ls = qs ++ ps → J ls nodes dd W (some node) → lk dd node = some v → (∀ p ∈ qs, Tch nodes p node → lk dd (p.1 + p.2 - node) = some (1 - v)) → W.length ≤ dd.length →
    (forL (.nm 6) lineB (ps.map lnD) (Ev ls nodes dd x3 W (some (.dat (.int node))) x6 x7) = .rt (.bl false) ∧ ¬ ∃ f, Proper ls nodes f) ∨
    ∃ dd' W' y6 y7, forL (.nm 6) lineB (ps.map lnD) (Ev ls nodes dd x3 W (some (.dat (.int node))) x6 x7) = .nx (Ev ls nodes dd' x3 W' (some (.dat (.int node))) y6 y7) ∧ J ls nodes dd' W' none ∧ (∀ k x, lk dd k = some x → lk dd' k = some x) ∧ 2 * (nodes.length - dd'.length) + W'.length ≤ 2 * (nodes.length - dd.length) + W.length ∧ W'.length ≤ dd'.length
  | [], qs, dd, W, x6, x7, hls, j, hv, hq, hw => by
    rw [List.append_nil] at hls
    subst hls
    exact .inr ⟨dd, W, x6, x7, rfl, j.done hv hq, fun k x h => h, Nat.le_refl _, hw⟩
  | p :: ps, qs, dd, W, x6, x7, hls, j, hv, hq, hw => by
    have hp : p ∈ ls := by
      rw [hls]
      exact List.mem_append_right _ List.mem_cons_self
    have hls2 : ls = (qs ++ [p]) ++ ps := by
      rw [hls, List.append_assoc]
      rfl
    have hsz := j.size
    -- the test
    have ec : (tAndM (mT (m2 dIn (mVar 5) (mVar 6))) (tAndM (mT (m2 dIn (m2 dIx (mVar 6) (mC (.int 0))) (mVar 1))) (mT (m2 dIn (m2 dIx (mVar 6) (mC (.int 1))) (mVar 1))))) (Ev ls nodes dd x3 W (some (.dat (.int node))) (some (.dat (lnD p))) x7) = .ok (decide (p.1 = node ∨ p.2 = node) && (decide (p.1 ∈ nodes) && decide (p.2 ∈ nodes))) :=
      tAnd_ok (mT_ok (m2_ok (by rfl) (by rfl) (in_ln node p))) (fun _ => tAnd_ok (mT_ok (m2_ok (m2_ok (by rfl) (by rfl) dIx_tup0) (by rfl) (in_tup _ _))) (fun _ => mT_ok (m2_ok (m2_ok (by rfl) (by rfl) dIx_tup1) (by rfl) (in_tup _ _))))
    have step : ∀ o, lineB (Ev ls nodes dd x3 W (some (.dat (.int node))) (some (.dat (lnD p))) x7) = o → forL (.nm 6) lineB ((p :: ps).map lnD) (Ev ls nodes dd x3 W (some (.dat (.int node))) x6 x7) = (match o with | .nx Γ2 => forL (.nm 6) lineB (ps.map lnD) Γ2 | .ct Γ2 => forL (.nm 6) lineB (ps.map lnD) Γ2 | .bk Γ2 => .nx Γ2 | .rt d => .rt d | .exc c => .exc c | .bad => .bad) := fun o ho => by
      subst ho
      rfl
    by_cases ht : Tch nodes p node
    · rw [decide_eq_true ht.1, decide_eq_true ht.2.1, decide_eq_true ht.2.2] at ec
      have eo : (m2 dSub (m2 dAdd (m2 dIx (mVar 6) (mC (.int 0))) (m2 dIx (mVar 6) (mC (.int 1)))) (mVar 5)) (Ev ls nodes dd x3 W (some (.dat (.int node))) (some (.dat (lnD p))) x7) = .ok (.int (p.1 + p.2 - node)) :=
        m2_ok (m2_ok (m2_ok (by rfl) (by rfl) dIx_tup0) (m2_ok (by rfl) (by rfl) dIx_tup1) (dAdd_int _ _)) (by rfl) (dSub_int _ _)
      have b0 : ∀ o, (sIf (mT (mDct 2 (mVar 7) fNotIn)) (sSeq (sDSet 2 (mVar 7) (m2 dSub (mC (.int 1)) (mDct 2 (mVar 5) fGet))) (sApp 4 (mVar 7))) (sIf (mT (m2 dEq (mDct 2 (mVar 7) fGet) (mDct 2 (mVar 5) fGet))) (sRet (mC (.bl false))) (sNext))) (Ev ls nodes dd x3 W (some (.dat (.int node))) (some (.dat (lnD p))) (some (.dat (.int (p.1 + p.2 - node))))) = o → lineB (Ev ls nodes dd x3 W (some (.dat (.int node))) (some (.dat (lnD p))) x7) = o := fun o ho => by
        refine sIf_yes ec ?_
        rw [sSeq_nx (sSet_ok eo)]
        exact ho
      have en := notin_ev (ls := ls) (nodes := nodes) (dd := dd) (W := W) (x3 := x3) (x5 := some (.dat (.int node))) (x6 := some (.dat (lnD p))) (x7 := some (.dat (.int (p.1 + p.2 - node)))) (m := mVar 7) (k := p.1 + p.2 - node) (by rfl)
      cases hk : lk dd (p.1 + p.2 - node) with
      | none =>
        rw [hk] at en
        have j2 := j.add hlt hv hp ht hk
        have hsz2 := j2.size
        rw [List.length_append, List.length_singleton] at hsz2
        have e1 := set_ev (ls := ls) (nodes := nodes) (dd := dd) (W := W) (x3 := x3) (x5 := some (.dat (.int node))) (x6 := some (.dat (lnD p))) (x7 := some (.dat (.int (p.1 + p.2 - node)))) (mk := mVar 7) (mv := m2 dSub (mC (.int 1)) (mDct 2 (mVar 5) fGet)) (k := p.1 + p.2 - node) (v := 1 - v) (by rfl) (m2_ok (by rfl) (get_ev (by rfl) hv) (dSub_int _ _)) hk (by omega)
        have e2 := step _ (b0 _ (sIf_yes (show _ = Out.ok true from en) ((sSeq_nx e1).trans (app_ev (k := p.1 + p.2 - node) (by rfl) (by omega)))))
        dsimp only at e2
        rw [e2]
        have ih := lines_run hlt hn7 (x3 := x3) ps (qs ++ [p]) _ _ (some (.dat (lnD p))) (some (.dat (.int (p.1 + p.2 - node)))) hls2 j2 (lk_old hv) (fun q hq2 ht2 => by
          rcases List.mem_append.mp hq2 with z | z
          · exact lk_old (hq q z ht2)
          · rw [List.mem_singleton] at z
            rw [z]
            exact lk_new hk) (by rw [List.length_append, List.length_append, List.length_singleton, List.length_singleton]; omega)
        rcases ih with ih | ⟨dd', W', y6, y7, i1, i2, i3, i4, i5⟩
        · exact .inl ih
        · refine .inr ⟨dd', W', y6, y7, i1, i2, fun k x h => i3 k x (lk_old h), ?_, i5⟩
          rw [List.length_append, List.length_append, List.length_singleton, List.length_singleton] at i4
          omega
      | some v' =>
        rw [hk] at en
        have ee : mT (m2 dEq (mDct 2 (mVar 7) fGet) (mDct 2 (mVar 5) fGet)) (Ev ls nodes dd x3 W (some (.dat (.int node))) (some (.dat (lnD p))) (some (.dat (.int (p.1 + p.2 - node))))) = .ok (decide (v' = v)) :=
          mT_ok (m2_ok (get_ev (by rfl) hk) (get_ev (by rfl) hv) (dEq_int _ _))
        by_cases hvv : v' = v
        · subst hvv
          rw [decide_eq_true rfl] at ee
          have e2 := step _ (b0 _ ((sIf_ok (show _ = Out.ok false from en)).trans (sIf_ret ee)))
          exact .inl ⟨e2, j.no hv hp ht hk⟩
        · rw [decide_eq_false hvv] at ee
          have e2 := step _ (b0 _ ((sIf_ok (show _ = Out.ok false from en)).trans (sIf_no ee)))
          dsimp only at e2
          rw [e2]
          refine lines_run hlt hn7 ps (qs ++ [p]) dd W _ _ hls2 j hv (fun q hq2 ht2 => ?_) hw
          rcases List.mem_append.mp hq2 with z | z
          · exact hq q z ht2
          · rw [List.mem_singleton] at z
            rw [z, hk]
            have h1 := (j.sb _ _ hk).2
            have h2 := (j.sb _ _ hv).2
            congr 1
            omega
    · have ec2 : (decide (p.1 = node ∨ p.2 = node) && (decide (p.1 ∈ nodes) && decide (p.2 ∈ nodes))) = false := by
        cases z : (decide (p.1 = node ∨ p.2 = node) && (decide (p.1 ∈ nodes) && decide (p.2 ∈ nodes))) with
        | false => rfl
        | true =>
          rw [Bool.and_eq_true, Bool.and_eq_true, decide_eq_true_iff, decide_eq_true_iff, decide_eq_true_iff] at z
          exact absurd ⟨z.1, z.2⟩ ht
      rw [ec2] at ec
      have e2 := step _ (sIf_no ec)
      dsimp only at e2
      rw [e2]
      refine lines_run hlt hn7 ps (qs ++ [p]) dd W _ _ hls2 j hv (fun q hq2 ht2 => ?_) hw
      rcases List.mem_append.mp hq2 with z | z
      · exact hq q z ht2
      · rw [List.mem_singleton] at z
        rw [z] at ht2
        exact absurd ht2 ht
def whB : FL.Env → SO := sSeq (sPop 5 4) (sFor (.nm 6) (mItems (mVar 0)) lineB)
def whC : FL.Env → Out Bool := mT (mONe 4 (mN dLst (mNil)))
theorem while_run (hlt : ∀ p ∈ ls, p.1 < p.2) (hn7 : nodes.length ≤ 100) {x3 : Option Sl} : ∀ (fuel : Nat) (dd : List (Int × Int)) (W : List Int) (x5 x6 x7 : Option Sl), J ls nodes dd W none → 2 * (nodes.length - dd.length) + W.length ≤ fuel → W.length ≤ dd.length →
    (sWhile whC whB (Ev ls nodes dd x3 W x5 x6 x7) = .rt (.bl false) ∧ ¬ ∃ f, Proper ls nodes f) ∨
    ∃ dd' y5 y6 y7, sWhile whC whB (Ev ls nodes dd x3 W x5 x6 x7) = .nx (Ev ls nodes dd' x3 [] y5 y6 y7) ∧ J ls nodes dd' [] none ∧ ∀ k x, lk dd k = some x → lk dd' k = some x := by
  intro fuel
  induction fuel with
  | zero =>
    intro dd W x5 x6 x7 j hf hw
    have hW : W = [] := List.eq_nil_of_length_eq_zero (by omega)
    subst hW
    refine .inr ⟨dd, x5, x6, x7, sWhile_done (by rfl), j, fun k x h => h⟩
  | succ fuel ih =>
    intro dd W x5 x6 x7 j hf hw
    by_cases hW : W = []
    · subst hW
      exact .inr ⟨dd, x5, x6, x7, sWhile_done (by rfl), j, fun k x h => h⟩
    · obtain ⟨W0, node, rfl⟩ : ∃ W0 node, W = W0 ++ [node] := ⟨W.dropLast, W.getLast hW, (List.dropLast_concat_getLast hW).symm⟩
      have j2 := j.pop
      obtain ⟨v, hv⟩ := j.wait node (List.mem_append_right _ (List.mem_singleton.mpr rfl))
      have ec : whC (Ev ls nodes dd x3 (W0 ++ [node]) x5 x6 x7) = .ok true := by
        refine mT_ok ?_
        show dNe (.lst ((W0 ++ [node]).map D.int)) (.lst (([] : List Int).map D.int)) = _
        rw [dNe_ints, decide_eq_false hW]
        rfl
      have ep : sPop 5 4 (Ev ls nodes dd x3 (W0 ++ [node]) x5 x6 x7) = .nx (Ev ls nodes dd x3 W0 (some (.dat (.int node))) x6 x7) := by
        have e1 : ((W0 ++ [node]).map D.int)[((W0 ++ [node]).map D.int).length - 1]? = some (.int node) := by
          simp
        have e2 : ((W0 ++ [node]).map D.int).dropLast = W0.map D.int := by
          rw [List.map_append]
          exact List.dropLast_concat
        show (match ((W0 ++ [node]).map D.int)[((W0 ++ [node]).map D.int).length - 1]? with | none => SO.bad | some d => .nx (((Ev ls nodes dd x3 (W0 ++ [node]) x5 x6 x7).set 4 (some (.own ((W0 ++ [node]).map D.int).dropLast))).set 5 (some (.dat d)))) = _
        rw [e1, e2]
        rfl
      have hl0 : W0.length ≤ dd.length := by
        rw [List.length_append] at hw
        omega
      have eb : whB (Ev ls nodes dd x3 (W0 ++ [node]) x5 x6 x7) = forL (.nm 6) lineB (ls.map lnD) (Ev ls nodes dd x3 W0 (some (.dat (.int node))) x6 x7) := by
        unfold whB
        rw [sSeq_nx ep]
        exact sFor_ok (by rfl)
      rcases lines_run hlt hn7 (x3 := x3) ls [] dd W0 x6 x7 rfl j2 hv (fun p hp => by cases hp) hl0 with ⟨h1, h2⟩ | ⟨dd', W', y6, y7, h1, h2, h3, h4, h5⟩
      · refine .inl ⟨sWhile_done ?_, h2⟩
        unfold wStep
        rw [ec]
        show (match whB _ with | .nx Γ2 => _ | .ct Γ2 => _ | .bk Γ2 => _ | .rt d => _ | .exc c => _ | .bad => _) = _
        rw [eb, h1]
      · have es : wStep whC whB (Ev ls nodes dd x3 (W0 ++ [node]) x5 x6 x7) = .inl (Ev ls nodes dd' x3 W' (some (.dat (.int node))) y6 y7) := by
          unfold wStep
          rw [ec]
          show (match whB _ with | .nx Γ2 => _ | .ct Γ2 => _ | .bk Γ2 => _ | .rt d => _ | .exc c => _ | .bad => _) = _
          rw [eb, h1]
        rw [sWhile_step es]
        rw [List.length_append, List.length_singleton] at hf
        rcases ih dd' W' _ y6 y7 h2 (by omega) h5 with q | ⟨dd2, z5, z6, z7, q1, q2, q3⟩
        · exact .inl q
        · exact .inr ⟨dd2, z5, z6, z7, q1, q2, fun k x h => q3 k x (h3 k x h)⟩
noncomputable def beginB : FL.Env → SO := (sSeq (sOwn 4 (mNil)) (sSeq (sIf (mT (mDct 2 (mVar 3) fNotIn)) (sSeq (sDSet 2 (mVar 3) (mC (.int 0))) (sApp 4 (mVar 3))) (sNext)) (sWhile whC whB)))
def Ev0 (ls : List (Int × Int)) (nodes : List Int) (dd : List (Int × Int)) (x3 x4 x5 x6 x7 : Option Sl) : FL.Env := [some (.dat (lsD ls)), some (.dat (wD nodes)), some (.dct (enc dd)), x3, x4, x5, x6, x7]
theorem nodes_run (hlt : ∀ p ∈ ls, p.1 < p.2) (hn7 : nodes.length ≤ 100) : ∀ (bs : List Int) (dd : List (Int × Int)) (x3 x4 x5 x6 x7 : Option Sl), (∀ b ∈ bs, b ∈ nodes) → J ls nodes dd [] none →
    (forL (.nm 3) beginB (bs.map D.int) (Ev0 ls nodes dd x3 x4 x5 x6 x7) = .rt (.bl false) ∧ ¬ ∃ f, Proper ls nodes f) ∨
    ∃ dd' y3 y4 y5 y6 y7, forL (.nm 3) beginB (bs.map D.int) (Ev0 ls nodes dd x3 x4 x5 x6 x7) = .nx (Ev0 ls nodes dd' y3 y4 y5 y6 y7) ∧ J ls nodes dd' [] none ∧ (∀ k x, lk dd k = some x → lk dd' k = some x) ∧ ∀ b ∈ bs, lk dd' b ≠ none
  | [], dd, x3, x4, x5, x6, x7, _, j => .inr ⟨dd, x3, x4, x5, x6, x7, rfl, j, fun k x h => h, fun b hb => by cases hb⟩
  | b :: bs, dd, x3, x4, x5, x6, x7, hb, j => by
    have step : ∀ o, beginB (Ev0 ls nodes dd (some (.dat (.int b))) x4 x5 x6 x7) = o → forL (.nm 3) beginB ((b :: bs).map D.int) (Ev0 ls nodes dd x3 x4 x5 x6 x7) = (match o with | .nx Γ2 => forL (.nm 3) beginB (bs.map D.int) Γ2 | .ct Γ2 => forL (.nm 3) beginB (bs.map D.int) Γ2 | .bk Γ2 => .nx Γ2 | .rt d => .rt d | .exc c => .exc c | .bad => .bad) := fun o ho => by
      subst ho
      rfl
    have hsz := j.size
    have eo : sOwn 4 mNil (Ev0 ls nodes dd (some (.dat (.int b))) x4 x5 x6 x7) = .nx (Ev ls nodes dd (some (.dat (.int b))) [] x5 x6 x7) := sOwn_ok (ds := []) (by rfl) (by simp)
    have en := notin_ev (ls := ls) (nodes := nodes) (dd := dd) (W := []) (x3 := some (.dat (.int b))) (x5 := x5) (x6 := x6) (x7 := x7) (m := mVar 3) (k := b) (by rfl)
    obtain ⟨dd1, W1, e1, j1, m1, hl1, hb1⟩ : ∃ dd1 W1, (sIf (mT (mDct 2 (mVar 3) fNotIn)) (sSeq (sDSet 2 (mVar 3) (mC (.int 0))) (sApp 4 (mVar 3))) (sNext)) (Ev ls nodes dd (some (.dat (.int b))) [] x5 x6 x7) = .nx (Ev ls nodes dd1 (some (.dat (.int b))) W1 x5 x6 x7) ∧ J ls nodes dd1 W1 none ∧ (∀ k x, lk dd k = some x → lk dd1 k = some x) ∧ W1.length ≤ dd1.length ∧ lk dd1 b ≠ none := by
      cases hk : lk dd b with
      | none =>
        rw [hk] at en
        refine ⟨dd ++ [(b, 0)], [b], sIf_yes (show _ = Out.ok true from en) ((sSeq_nx (set_ev (k := b) (v := 0) (by rfl) (by rfl) hk (by omega))).trans (app_ev (k := b) (by rfl) (by simp))), j.begin (hb b List.mem_cons_self) hk, fun k x h => lk_old h, by rw [List.length_append, List.length_singleton, List.length_singleton]; omega, ?_⟩
        rw [lk_new hk]
        simp
      | some v =>
        rw [hk] at en
        exact ⟨dd, [], sIf_no (show _ = Out.ok false from en), j, fun k x h => h, Nat.zero_le _, by rw [hk]; simp⟩
    have eB : beginB (Ev0 ls nodes dd (some (.dat (.int b))) x4 x5 x6 x7) = sWhile whC whB (Ev ls nodes dd1 (some (.dat (.int b))) W1 x5 x6 x7) := by
      unfold beginB
      rw [sSeq_nx eo, sSeq_nx e1]
    rcases while_run hlt hn7 (x3 := some (.dat (.int b))) _ dd1 W1 x5 x6 x7 j1 (Nat.le_refl _) hl1 with ⟨h1, h2⟩ | ⟨dd2, y5, y6, y7, h1, h2, h3⟩
    · exact .inl ⟨step _ (eB.trans h1), h2⟩
    · have e2 := step _ (eB.trans h1)
      dsimp only at e2
      rw [e2]
      rcases nodes_run hlt hn7 bs dd2 (some (.dat (.int b))) (some (.own (([] : List Int).map D.int))) y5 y6 y7 (fun c hc => hb c (List.mem_cons_of_mem _ hc)) h2 with q | ⟨dd3, z3, z4, z5, z6, z7, q1, q2, q3, q4⟩
      · exact .inl q
      · refine .inr ⟨dd3, z3, z4, z5, z6, z7, q1, q2, fun k x h => q3 k x (h3 k x (m1 k x h)), fun c hc => ?_⟩
        rcases List.mem_cons.mp hc with rfl | hc
        · cases e : lk dd1 c with
          | none => exact absurd e hb1
          | some x =>
            rw [q3 _ _ (h3 _ _ e)]
            simp
        · exact q4 c hc
theorem areso_val (hlt : ∀ p ∈ ls, p.1 < p.2) (hn7 : nodes.length ≤ 100) : ∃ b, m_are_so [lsD ls, wD nodes] = .ok (.bl b) ∧ (b = true ↔ ∃ f, Proper ls nodes f) := by
  rcases nodes_run hlt hn7 nodes [] none none none none none (fun b h => h) J.start with ⟨h1, h2⟩ | ⟨dd', y3, y4, y5, y6, y7, h1, h2, _, h4⟩
  · refine ⟨false, defM_rt ?_, by simp [h2]⟩
    show sSeq (sDct 2) (sSeq (sFor (.nm 3) (mItems (mVar 1)) beginB) (sRet (mC (.bl true)))) [some (.dat (lsD ls)), some (.dat (wD nodes)), none, none, none, none, none, none] = _
    rw [sSeq_nx (Γ' := Ev0 ls nodes [] none none none none none) (by rfl)]
    exact sSeq_rt ((sFor_ok (by rfl)).trans h1)
  · refine ⟨true, defM_rt ?_, by simp [h2.yes h4]⟩
    show sSeq (sDct 2) (sSeq (sFor (.nm 3) (mItems (mVar 1)) beginB) (sRet (mC (.bl true)))) [some (.dat (lsD ls)), some (.dat (wD nodes)), none, none, none, none, none, none] = _
    rw [sSeq_nx (Γ' := Ev0 ls nodes [] none none none none none) (by rfl), sSeq_nx ((sFor_ok (by rfl)).trans h1)]
    rfl
end
end K70
set_option Elab.async false
set_option linter.all false
set_option maxRecDepth 100000
set_option maxHeartbeats 4000000
namespace K70
open PySem PySem.Spec PyProof.Rows L2 LamX FL
theorem in_lst (a : Int) (ns : List Int) : dIn (.int a) (hD ns) = .ok (.bl (decide (a ∈ ns))) := by
  unfold dIn
  rw [if_pos]
  · unfold inD seqD hD
    simp only
    rw [List.any_map]
    congr 2
    rw [Bool.eq_iff_iff, List.any_eq_true, decide_eq_true_iff]
    constructor
    · rintro ⟨x, hx, e⟩
      have : x = a := by simpa [Function.comp, eqv_int] using e
      rw [← this]
      exact hx
    · intro h
      exact ⟨a, h, by simp [Function.comp, eqv_int]⟩
  · show (gd 8 (.int a) && gd 8 (hD ns)) = true
    rw [Bool.and_eq_true]
    exact ⟨rfl, gd_ints 7 ns⟩
def pos (nodes : List Int) (a : Int) : Nat := (idxD (.int a) (nodes.map D.int)).getD 0
theorem pos_ok {nodes : List Int} {a : Int} (h : a ∈ nodes) : idxD (.int a) (nodes.map D.int) = some (pos nodes a) ∧ nodes[pos nodes a]? = some a := by
  obtain ⟨j, h1, h2⟩ := idx_ints h
  unfold pos
  rw [h1]
  exact ⟨rfl, h2⟩
def inN (ls : List (Int × Int)) (nodes : List Int) : List (Int × Int) := ls.filter fun p => decide (p.1 ∈ nodes) && decide (p.2 ∈ nodes)
theorem inN_mem {ls : List (Int × Int)} {nodes : List Int} {p : Int × Int} : p ∈ inN ls nodes ↔ p ∈ ls ∧ p.1 ∈ nodes ∧ p.2 ∈ nodes := by
  unfold inN
  rw [List.mem_filter, Bool.and_eq_true, decide_eq_true_iff, decide_eq_true_iff]
def goodH (ls : List (Int × Int)) (nodes : List Int) (h : List Int) : Bool := !((inN ls nodes).any fun p => decide (h.getD (pos nodes p.1) 0 = h.getD (pos nodes p.2) 0))
theorem goodH_iff {ls : List (Int × Int)} {nodes : List Int} (hne : nodes ≠ []) : ((hal (nodes.length - 1)).any (goodH ls nodes)) = true ↔ ∃ f, Proper ls nodes f := by
  have hl : 0 < nodes.length := List.length_pos_iff.mpr hne
  rw [List.any_eq_true]
  constructor
  · rintro ⟨h, hh, hg⟩
    obtain ⟨m1, m2, m3⟩ := hal_mem.mp hh
    unfold goodH at hg
    rw [Bool.not_eq_true', List.any_eq_false] at hg
    refine ⟨fun k => h.getD (pos nodes k) 0, fun k => ?_, fun p hp h1 h2 e => hg p (inN_mem.mpr ⟨hp, h1, h2⟩) (decide_eq_true e)⟩
    show h.getD (pos nodes k) 0 = 0 ∨ h.getD (pos nodes k) 0 = 1
    by_cases z : pos nodes k < h.length
    · exact m3 _ (by simp [List.getD, z])
    · left
      simp [List.getD, z]
  · rintro ⟨f, hf⟩
    obtain ⟨n0, rest, rfl⟩ : ∃ n0 rest, nodes = n0 :: rest := by
      cases nodes with
      | nil => exact absurd rfl hne
      | cons a b => exact ⟨a, b, rfl⟩
    obtain ⟨g, hg1, hg2, hg0⟩ : ∃ g : Int → Int, (∀ k, g k = 0 ∨ g k = 1) ∧ (∀ p ∈ ls, p.1 ∈ n0 :: rest → p.2 ∈ n0 :: rest → g p.1 ≠ g p.2) ∧ g n0 = 0 := by
      rcases hf.1 n0 with e | e
      · exact ⟨f, hf.1, hf.2, e⟩
      · refine ⟨fun k => 1 - f k, fun k => ?_, fun p hp h1 h2 => ?_, ?_⟩
        · have := hf.1 k
          show 1 - f k = 0 ∨ 1 - f k = 1
          omega
        · have := hf.2 p hp h1 h2
          show 1 - f p.1 ≠ 1 - f p.2
          omega
        · show 1 - f n0 = 0
          omega
    refine ⟨(n0 :: rest).map g, hal_mem.mpr ⟨by simp, by simpa using hg0, fun x hx => ?_⟩, ?_⟩
    · obtain ⟨k, _, rfl⟩ := List.mem_map.mp hx
      exact hg1 k
    · unfold goodH
      rw [Bool.not_eq_true', List.any_eq_false]
      intro p hp
      obtain ⟨h1, h2, h3⟩ := inN_mem.mp hp
      rw [decide_eq_true_iff]
      have e : ∀ a ∈ n0 :: rest, ((n0 :: rest).map g).getD (pos (n0 :: rest) a) 0 = g a := fun a ha => by
        have := (pos_ok ha).2
        rw [List.getD, List.getElem?_map, this]
        rfl
      rw [e _ h2, e _ h3]
      exact hg2 p h1 h2 h3
theorem eq_nilH (ns : List Int) : dEq (hD ns) (.lst []) = .ok (.bl (decide (ns = []))) := dEq_ints ns []
theorem index_ev {Γ : FL.Env} {i : Nat} {m : FL.Env → Out D} {nodes : List Int} {a : Int} (h1 : mVar i Γ = .ok (hD nodes)) (h2 : m Γ = .ok (.int a)) (ha : a ∈ nodes) : mL dIndex (mVar i) m Γ = .ok (.int (pos nodes a : Nat)) := by
  unfold mL
  rw [h1]
  show (m Γ).bind (dIndex (nodes.map D.int)) = _
  rw [h2]
  exact dIndex_ints (pos_ok ha).1
theorem lisso_val {ls : List (Int × Int)} {nodes : List Int} (hl : ls.length ≤ 1000) (hn : nodes.length ≤ 10) : ∃ b, m_L_is_so [lsD ls, hD nodes] = .ok (.bl b) ∧ (b = true ↔ ∃ f, Proper ls nodes f) := by
  have er : (sSet 2 (mComp [4] (.nm 4) (mItems (mVar 0)) (tAndM (mT (m2 dIn (m2 dIx (mVar 4) (mC (.int 0))) (mVar 1))) (mT (m2 dIn (m2 dIx (mVar 4) (mC (.int 1))) (mVar 1)))) (mVar 4))) [some (.dat (lsD ls)), some (.dat (hD nodes)), none, none, none, none, none] = .nx [some (.dat (lsD ls)), some (.dat (hD nodes)), some (.dat (lsD (inN ls nodes))), none, none, none, none] :=
    sSet_ok (mComp_ok lnD (fun p => decide (p.1 ∈ nodes) && decide (p.2 ∈ nodes)) lnD (by rfl) (fun p hp => ⟨_, rfl, tAnd_ok (mT_ok (m2_ok (m2_ok (by rfl) (by rfl) dIx_tup0) (by rfl) (in_lst _ _))) (fun _ => mT_ok (m2_ok (m2_ok (by rfl) (by rfl) dIx_tup1) (by rfl) (in_lst _ _))), fun _ => by rfl⟩) (by unfold LIM; omega))
  have hlN : (inN ls nodes).length ≤ 1000 := Nat.le_trans (List.length_filter_le _ _) hl
  by_cases hne : nodes = []
  · subst hne
    refine ⟨true, defM_rt ?_, by
      refine ⟨fun _ => ⟨fun _ => 0, fun _ => .inl rfl, fun p _ h => by cases h⟩, fun _ => rfl⟩⟩
    show sSeq _ _ [some (.dat (lsD ls)), some (.dat (hD [])), none, none, none, none, none] = _
    rw [sSeq_nx er]
    exact sSeq_rt (sIf_ret (by rfl))
  · have hpos := List.length_pos_iff.mpr hne
    refine ⟨_, defM_rt ?_, goodH_iff hne⟩
    show sSeq _ _ [some (.dat (lsD ls)), some (.dat (hD nodes)), none, none, none, none, none] = _
    have e1 := eq_nilH nodes
    rw [decide_eq_false hne] at e1
    rw [sSeq_nx er, sSeq_nx (sIf_no (mT_ok (m2_ok (by rfl) (by rfl) e1)))]
    have hi : mItems (mN (arg 1 m_L_lists) (mCons (mN (c1 dLen) (mCons (mVar 1) (mNil))) (mNil))) [some (.dat (lsD ls)), some (.dat (hD nodes)), some (.dat (lsD (inN ls nodes))), none, none, none, none] = .ok ((hal (nodes.length - 1)).map hD) := by
      unfold mItems
      rw [f1_ok (b1_ok (by rfl) (show dLen (hD nodes) = .ok (.int (nodes.length : Nat)) by show Out.ok (D.int ((nodes.map D.int).length : Nat)) = _; rw [List.length_map])) (lists_val nodes.length hpos hn)]
      rfl
    have st : ∀ h ∈ hal (nodes.length - 1), ∀ Γ, (∃ z, Γ = [some (.dat (lsD ls)), some (.dat (hD nodes)), some (.dat (lsD (inN ls nodes))), z, none, none, none]) → ∃ Γ1, bindP (.nm 3) (hD h) Γ = some Γ1 ∧ ((goodH ls nodes h = true ∧ (sIf (tNotM (mT (mN (c1 dAny) (mCons (mComp [5, 6] (.tp [5, 6]) (mItems (mVar 2)) (tYesM) (m2 dEq (m2 dIx (mVar 3) (mL dIndex (mVar 1) (mVar 5))) (m2 dIx (mVar 3) (mL dIndex (mVar 1) (mVar 6))))) (mNil))))) (sRet (mC (.bl true))) (sNext)) Γ1 = .rt (.bl true)) ∨ (goodH ls nodes h = false ∧ ∃ Γ2, (sIf (tNotM (mT (mN (c1 dAny) (mCons (mComp [5, 6] (.tp [5, 6]) (mItems (mVar 2)) (tYesM) (m2 dEq (m2 dIx (mVar 3) (mL dIndex (mVar 1) (mVar 5))) (m2 dIx (mVar 3) (mL dIndex (mVar 1) (mVar 6))))) (mNil))))) (sRet (mC (.bl true))) (sNext)) Γ1 = .nx Γ2 ∧ ∃ z, Γ2 = [some (.dat (lsD ls)), some (.dat (hD nodes)), some (.dat (lsD (inN ls nodes))), z, none, none, none])) := by
      rintro h hh Γ ⟨z, rfl⟩
      refine ⟨_, rfl, ?_⟩
      simp only [List.set_cons_zero, List.set_cons_succ]
      have hhl := hal_hlen hh
      have hp : ∀ a ∈ nodes, pos nodes a < h.length := fun a ha => by
        have := (List.getElem?_eq_some_iff.mp (pos_ok ha).2).1
        omega
      have e : tNotM (mT (mN (c1 dAny) (mCons (mComp [5, 6] (.tp [5, 6]) (mItems (mVar 2)) (tYesM) (m2 dEq (m2 dIx (mVar 3) (mL dIndex (mVar 1) (mVar 5))) (m2 dIx (mVar 3) (mL dIndex (mVar 1) (mVar 6))))) (mNil)))) [some (.dat (lsD ls)), some (.dat (hD nodes)), some (.dat (lsD (inN ls nodes))), some (.dat (hD h)), none, none, none] = .ok (goodH ls nodes h) := by
        refine tNot_ok (mT_ok (b1_ok (mComp_all lnD (fun p => D.bl (decide (h.getD (pos nodes p.1) 0 = h.getD (pos nodes p.2) 0))) (by rfl) (fun p hp2 => ⟨_, rfl, ?_⟩) (by unfold LIM; omega)) (dAny_map _ _)))
        obtain ⟨q1, q2, q3⟩ := inN_mem.mp hp2
        exact m2_ok (m2_ok (by rfl) (index_ev (by rfl) (by rfl) q2) (dIx_ints (hp _ q2))) (m2_ok (by rfl) (index_ev (by rfl) (by rfl) q3) (dIx_ints (hp _ q3))) (dEq_int _ _)
      cases hd : goodH ls nodes h with
      | true =>
        rw [hd] at e
        exact .inl ⟨rfl, sIf_ret e⟩
      | false =>
        rw [hd] at e
        exact .inr ⟨rfl, _, sIf_no e, _, rfl⟩
    rcases forL_first (p := .nm 3) (v := .bl true) hD (goodH ls nodes) _ ⟨none, rfl⟩ st with ⟨h1, h2⟩ | ⟨h1, Γ', h2, _⟩
    · rw [h1]
      exact sSeq_rt ((sFor_ok hi).trans h2)
    · rw [h1]
      rw [sSeq_nx ((sFor_ok hi).trans h2)]
      rfl
noncomputable def soB (ls : List (Int × Int)) (nodes : List Int) : Bool := @decide (∃ f, Proper ls nodes f) (Classical.propDecidable _)
theorem soB_of {ls : List (Int × Int)} {nodes : List Int} {b : Bool} (h : b = true ↔ ∃ f, Proper ls nodes f) : b = soB ls nodes := by
  unfold soB
  rw [Bool.eq_iff_iff, h]
  exact (@decide_eq_true_iff _ (Classical.propDecidable _)).symm
theorem areso {n : Nat} {ls : List (Int × Int)} (w : Web n ls) {nodes : List Int} (hn : nodes.length ≤ 10) : m_are_so [lsD ls, wD nodes] = .ok (.bl (soB ls nodes)) := by
  obtain ⟨b, h1, h2⟩ := areso_val (ls := ls) (nodes := nodes) (fun p hp => (w.ln p hp).2.1) (by omega)
  rw [h1, soB_of h2]
theorem lisso {n : Nat} {ls : List (Int × Int)} (w : Web n ls) {nodes : List Int} (hn : nodes.length ≤ 10) : m_L_is_so [lsD ls, hD nodes] = .ok (.bl (soB ls nodes)) := by
  obtain ⟨b, h1, h2⟩ := lisso_val (ls := ls) (nodes := nodes) (by have := w.len; omega) hn
  rw [h1, soB_of h2]
theorem so_mono (ls : List (Int × Int)) : Mono fun s => !soB ls s := fun s t h hs => by
  rw [Bool.not_eq_true'] at hs ⊢
  cases e : soB ls t with
  | false => rfl
  | true =>
    unfold soB at e hs
    rw [@decide_eq_true_iff _ (Classical.propDecidable _)] at e
    rw [@decide_eq_false_iff_not _ (Classical.propDecidable _)] at hs
    obtain ⟨f, hf⟩ := e
    exact absurd ⟨f, hf.1, fun p hp h1 h2 => hf.2 p hp (h _ h1) (h _ h2)⟩ hs
/-! ### shares -/
def frD (a b : Nat) : D := .tup [.int ((a / Nat.gcd a b : Nat) : Int), .int ((b / Nat.gcd a b : Nat) : Int)]
theorem num_pos : ∀ {n c : Nat}, c ≤ n → 0 < num n c fun _ => true
  | 0, 0, _ => by rw [num_zero_zero]; simp
  | n + 1, 0, _ => by rw [num_s_zero]; exact num_pos (Nat.zero_le _)
  | n + 1, c + 1, h => by
    rw [num_s_succ]
    have := num_pos (n := n) (c := c) (by omega)
    omega
theorem num_128 {n c : Nat} (b : List Int → Bool) (h : n ≤ 7) : num n c b ≤ 128 := Nat.le_trans (List.length_filter_le _ _) (sub_le h)
noncomputable def bad (ls : List (Int × Int)) (n c : Nat) : Nat := num n c fun s => !soB ls s
noncomputable def shD (ls : List (Int × Int)) (n c : Nat) : D := frD (bad ls n c) (num n c fun _ => true)
theorem byNodes_val {n : Nat} {ls : List (Int × Int)} (w : Web n ls) {c : Nat} (hc : c ≤ n) : m_by_nodes [webD n ls, .int (c : Nat)] = .ok (shD ls n c) := by
  have h7 := w.n7
  refine defM_rt ?_
  show sSeq _ _ [some (.dat (webD n ls)), some (.dat (.int (c : Nat))), none, none] = _
  have i0 : dIx (webD n ls) (.int 0) = .ok (.int (n : Nat)) := dIx_tup0
  have i1 : dIx (webD n ls) (.int 1) = .ok (lsD ls) := dIx_tup1
  rw [drop_ok (f1_ok (by rfl) w.ok), drop_ok (d := .non) (f1_ok (x := .bl true) ((chain_bl (by rfl) (by rfl) (dLe_int _ _) (m2_ok (by rfl) (by rfl) i0) (dLe_int _ _)).trans (by rw [decide_eq_true (by omega), decide_eq_true (by omega)]; rfl)) (by rfl)), sSeq_nx (sSet_ok (f2_ok (m2_ok (by rfl) (by rfl) i0) (by rfl) (looks_val n c h7 (by omega))))]
  simp only [List.set_cons_zero, List.set_cons_succ]
  have hp := srtC_perm n c
  have hlen : (srtC n c).length = num n c fun _ => true := by rw [hp.length_eq, num_all]
  have hb := num_128 (n := n) (c := c) (fun _ => true) h7
  have hp0 := num_pos hc
  have e1 : mN (c1 dLen) (mCons (mComp [3] (.nm 3) (mItems (mVar 2)) (tNotM (mT (mN (arg 2 m_are_so) (mCons (m2 dIx (mVar 0) (mC (.int 1))) (mCons (mVar 3) (mNil)))))) (mVar 3)) (mNil)) [some (.dat (webD n ls)), some (.dat (.int (c : Nat))), some (.dat (.lst ((srtC n c).map wD))), none] = .ok (.int (bad ls n c : Nat)) := by
    refine (b1_ok (mComp_ok wD (fun s => !soB ls s) wD (by rfl) (fun s hs => ⟨_, rfl, tNot_ok (mT_ok (f2_ok (m2_ok (by rfl) (by rfl) i1) (by rfl) (areso w (by have := (cho_mem (hp.mem_iff.mp hs)).2; omega)))), fun _ => by rfl⟩) (by unfold LIM; omega)) (dLen_lst _)).trans ?_
    rw [List.length_map, (hp.filter _).length_eq, num_filter]
    rfl
  refine sRet_ok (f2_ok e1 (b1_ok (by rfl) ((dLen_lst _).trans (by rw [List.length_map, hlen]))) (fraction_val _ _ hp0 (by omega)))
theorem byNodes_web {odd d : D} (h : m_need_web [odd] = .exc "BadWeb") : m_by_nodes [odd, d] = .exc "BadWeb" := by
  refine defM_exc ?_
  exact drop_exc (f1_ok (x := odd) (by rfl) h)
theorem byNodes_test {n : Nat} {ls : List (Int × Int)} (w : Web n ls) {c : Int} (h : ¬ (0 ≤ c ∧ c ≤ (n : Int))) : m_by_nodes [webD n ls, .int c] = .exc "BadTest" := by
  refine defM_exc ?_
  show sSeq _ _ [some (.dat (webD n ls)), some (.dat (.int c)), none, none] = _
  have i0 : dIx (webD n ls) (.int 0) = .ok (.int (n : Nat)) := dIx_tup0
  rw [drop_ok (f1_ok (by rfl) w.ok)]
  refine drop_exc (f1_ok (x := .bl false) ((chain_bl (by rfl) (by rfl) (dLe_int _ _) (m2_ok (by rfl) (by rfl) i0) (dLe_int _ _)).trans ?_) (by rfl))
  congr 2
  rw [Bool.and_eq_false_iff, decide_eq_false_iff_not, decide_eq_false_iff_not]
  omega
theorem lmade_val {n : Nat} {ls : List (Int × Int)} (w : Web n ls) {c : Nat} (hc : c ≤ n) {Γ : FL.Env} (h5 : mVar 5 Γ = .ok (lsD ls)) (h12 : mVar 12 Γ = .ok (hsD (cho n c))) (hw5 : ∀ d, mVar 5 ((wipeE Γ [16]).set 16 d) = .ok (lsD ls)) (hw16 : ∀ d, mVar 16 ((wipeE Γ [16]).set 16 (some (.dat d))) = .ok d) :
    mN (arg 2 m_L_made) (mCons (mN (c1 dLen) (mCons (mComp [16] (.nm 16) (mItems (mVar 12)) (tNotM (mT (mN (arg 2 m_L_is_so) (mCons (mVar 5) (mCons (mVar 16) (mNil)))))) (mVar 16)) (mNil))) (mCons (mN (c1 dLen) (mCons (mVar 12) (mNil))) (mNil))) Γ = .ok (shD ls n c) := by
  have h7 := w.n7
  have hb := num_128 (n := n) (c := c) (fun _ => true) h7
  have hp0 := num_pos hc
  have hl : (cho n c).length ≤ 128 := by rw [num_all]; exact hb
  have e1 : mN (c1 dLen) (mCons (mComp [16] (.nm 16) (mItems (mVar 12)) (tNotM (mT (mN (arg 2 m_L_is_so) (mCons (mVar 5) (mCons (mVar 16) (mNil)))))) (mVar 16)) (mNil)) Γ = .ok (.int (bad ls n c : Nat)) := by
    refine (b1_ok (mComp_ok hD (fun s => !soB ls s) hD (show mItems (mVar 12) Γ = _ by unfold mItems; rw [h12]; rfl) (fun s hs => ⟨_, rfl, tNot_ok (mT_ok (f2_ok (hw5 _) (hw16 _) (lisso w (by have := (cho_mem hs).2; omega)))), fun _ => hw16 _⟩) (by unfold LIM; omega)) (dLen_lst _)).trans ?_
    rw [List.length_map, num_filter]
    rfl
  refine f2_ok e1 (b1_ok h12 ((dLen_lst _).trans (by rw [List.length_map, num_all]))) ?_
  exact fraction_val (bad ls n c) (num n c fun _ => true) hp0 (by omega)
theorem less_val {a b a' b' : Nat} (h : a' * b ≤ a * b') (hb : 0 < b) (hb' : 0 < b') (h1 : a ≤ 1000) (h2 : b ≤ 1000) (h3 : a' ≤ 1000) (h4 : b' ≤ 1000) : m_L_less [frD a b, frD a' b'] = .ok (.bl false) := by
  have hg : 0 < Nat.gcd a b := Nat.gcd_pos_of_pos_right _ hb
  have hg' : 0 < Nat.gcd a' b' := Nat.gcd_pos_of_pos_right _ hb'
  obtain ⟨A, hA⟩ : ∃ A, A = a / Nat.gcd a b := ⟨_, rfl⟩
  obtain ⟨B, hB⟩ : ∃ B, B = b / Nat.gcd a b := ⟨_, rfl⟩
  obtain ⟨A', hA'⟩ : ∃ A', A' = a' / Nat.gcd a' b' := ⟨_, rfl⟩
  obtain ⟨B', hB'⟩ : ∃ B', B' = b' / Nat.gcd a' b' := ⟨_, rfl⟩
  have ea : a = A * Nat.gcd a b := by rw [hA]; exact (Nat.div_mul_cancel (Nat.gcd_dvd_left a b)).symm
  have eb : b = B * Nat.gcd a b := by rw [hB]; exact (Nat.div_mul_cancel (Nat.gcd_dvd_right a b)).symm
  have ea' : a' = A' * Nat.gcd a' b' := by rw [hA']; exact (Nat.div_mul_cancel (Nat.gcd_dvd_left a' b')).symm
  have eb' : b' = B' * Nat.gcd a' b' := by rw [hB']; exact (Nat.div_mul_cancel (Nat.gcd_dvd_right a' b')).symm
  have hAl : A ≤ 1000 := by rw [hA]; exact Nat.le_trans (Nat.div_le_self _ _) h1
  have hBl : B ≤ 1000 := by rw [hB]; exact Nat.le_trans (Nat.div_le_self _ _) h2
  have hAl' : A' ≤ 1000 := by rw [hA']; exact Nat.le_trans (Nat.div_le_self _ _) h3
  have hBl' : B' ≤ 1000 := by rw [hB']; exact Nat.le_trans (Nat.div_le_self _ _) h4
  have key : A' * B ≤ A * B' := by
    generalize Nat.gcd a b = g at *
    generalize Nat.gcd a' b' = g' at *
    rw [ea, eb, ea', eb'] at h
    have e1 : A' * g' * (B * g) = (g' * g) * (A' * B) := by ac_rfl
    have e2 : A * g * (B' * g') = (g' * g) * (A * B') := by ac_rfl
    rw [e1, e2] at h
    exact Nat.le_of_mul_le_mul_left h (Nat.mul_pos hg' hg)
  refine defM_rt ?_
  show sRet _ [some (.dat (frD a b)), some (.dat (frD a' b'))] = _
  unfold frD
  rw [← hA, ← hB, ← hA', ← hB']
  have m1 : dMul (.int (A : Nat)) (.int (B' : Nat)) = .ok (.int ((A : Int) * (B' : Nat))) := dMul_l (by omega)
  have m2' : dMul (.int (A' : Nat)) (.int (B : Nat)) = .ok (.int ((A' : Int) * (B : Nat))) := dMul_l (by omega)
  refine sRet_ok ((m2_ok (m2_ok (m2_ok (by rfl) (by rfl) dIx_tup0) (m2_ok (by rfl) (by rfl) dIx_tup1) m1) (m2_ok (m2_ok (by rfl) (by rfl) dIx_tup0) (m2_ok (by rfl) (by rfl) dIx_tup1) m2') (dLt_int _ _)).trans ?_)
  congr 2
  rw [decide_eq_false_iff_not]
  have k2 : ((A' * B : Nat) : Int) ≤ ((A * B' : Nat) : Int) := by exact_mod_cast key
  rw [Int.natCast_mul, Int.natCast_mul] at k2
  omega
theorem less_sh {n : Nat} {ls : List (Int × Int)} (w : Web n ls) {c : Nat} (hc : c + 1 ≤ n) : m_L_less [shD ls n (c + 1), shD ls n c] = .ok (.bl false) := by
  have h7 := w.n7
  unfold shD
  have u := num_up n c _ (so_mono ls)
  have e := num_eq n c (by omega)
  have p1 := num_pos (n := n) (c := c) (by omega)
  have p2 := num_pos (n := n) (c := c + 1) hc
  refine less_val ?_ p2 p1 (Nat.le_trans (num_128 _ h7) (by omega)) (Nat.le_trans (num_128 _ h7) (by omega)) (Nat.le_trans (num_128 _ h7) (by omega)) (Nat.le_trans (num_128 _ h7) (by omega))
  show num n c _ * _ ≤ num n (c + 1) _ * _
  generalize num n c (fun s => !soB ls s) = x at *
  generalize num n (c + 1) (fun s => !soB ls s) = y at *
  generalize num n c (fun _ => true) = p at *
  generalize num n (c + 1) (fun _ => true) = q at *
  have k : (c + 1) * (x * q) ≤ (c + 1) * (y * p) := by
    calc (c + 1) * (x * q) = x * ((c + 1) * q) := by ac_rfl
      _ = x * ((n - c) * p) := by rw [e]
      _ = ((n - c) * x) * p := by ac_rfl
      _ ≤ ((c + 1) * y) * p := Nat.mul_le_mul_right p u
      _ = (c + 1) * (y * p) := by ac_rfl
  exact Nat.le_of_mul_le_mul_left k (by omega)
end K70
set_option Elab.async false
set_option linter.all false
set_option maxRecDepth 100000
set_option maxHeartbeats 4000000
namespace K70
open PySem PySem.Spec PyProof.Rows L2 LamX FL
theorem mOr_bl {a b : FL.Env → Out D} {Γ : FL.Env} {x y : Bool} (ha : a Γ = .ok (.bl x)) (hb : x = false → b Γ = .ok (.bl y)) : mOr a b Γ = .ok (.bl (x || y)) := by
  unfold mOr
  rw [ha, Out.bind]
  cases x with
  | true => rfl
  | false => exact hb rfl
theorem rng_two (a b : Int) (h0 : 0 ≤ a) (h1 : a ≤ 1000) (h2 : 0 ≤ b) (h3 : b ≤ 1000) : rng2 [.int a, .int b] = .ok (intsD a (b - a).toNat) := by
  have hc : (-RLIM ≤ a ∧ a < RLIM) ∧ (-RLIM ≤ b ∧ b < RLIM) := by unfold RLIM; omega
  simp only [rng2]
  rw [if_pos hc]
structure LsOk (n : Nat) (ls : List (Int × Int)) (q : Int × Int → Prop) (m : Nat) : Prop where
  ln : ∀ p ∈ ls, 0 ≤ p.1 ∧ p.1 < p.2 ∧ p.2 < (n : Int)
  lt : ∀ p ∈ ls, q p
  pw : ls.Pairwise fun p q => lxP p q = true
  len : ls.length ≤ m
theorem web_drawn (more : Int) (h0 : 0 ≤ more) : ∃ n ls, m_L_web [.int more] = .ok (webD n ls) ∧ Web n ls := by
  have q1 := Int.emod_nonneg more (b := 7) (by omega)
  have q2 := Int.emod_lt_of_pos more (b := 7) (by omega)
  obtain ⟨n, hn⟩ : ∃ n : Nat, (n : Int) = 1 + more % 7 := ⟨(1 + more % 7).toNat, by omega⟩
  have e1 : dMod (.int more) (.int 7) = .ok (.int (more % 7)) := dMod_ok (by omega)
  have d8 : dDiv (.int more) (.int 8) = .ok (.int (more / 8)) := dDiv_64 (by omega) (by omega)
  have d84 : dMod (.int (more / 8)) (.int 4) = .ok (.int (more / 8 % 4)) := dMod_ok (by omega)
  have r1 := Int.emod_nonneg (more / 8) (b := 4) (by omega)
  have r2 := Int.emod_lt_of_pos (more / 8) (b := 4) (by omega)
  have G : Goes (sFor (.nm 3) (mI rng1 (mCons (mVar 1) (mNil))) (sFor (.nm 4) (mI rng2 (mCons (m2 dAdd (mVar 3) (mC (.int 1))) (mCons (mVar 1) (mNil)))) (sSeq (sSet 5 (mN (arg 2 m_L_drawn) (mCons (mVar 0) (mCons (m2 dAdd (m2 dMul (mC (.int 8)) (mVar 3)) (mVar 4)) (mNil))))) (sSeq (sSet 6 (mOr (m2 dEq (mVar 4) (m2 dAdd (mVar 3) (mC (.int 1)))) (mAnd (m2 dEq (mVar 3) (mC (.int 0))) (m2 dEq (mVar 4) (m2 dSub (mVar 1) (mC (.int 1))))))) (sIf (mT (m2 dIx (mN dLst (mCons (m2 dEq (m2 dMod (mVar 5) (mC (.int 2))) (mC (.int 0))) (mCons (m2 dEq (m2 dMod (mVar 5) (mC (.int 4))) (mC (.int 0))) (mCons (m2 dGt (m2 dMod (mVar 5) (mC (.int 5))) (mC (.int 0))) (mCons (mVar 6) (mNil)))))) (m2 dMod (m2 dDiv (mVar 0) (mC (.int 8))) (mC (.int 4))))) (sApp 2 (mN dTup (mCons (mVar 3) (mCons (mVar 4) (mNil))))) (sNext))))))
      [some (.dat (.int more)), some (.dat (.int (n : Nat))), some (.own []), none, none, none, none] (fun Γ => ∃ ls x3 x4 x5 x6, LsOk n ls (fun p => p.1 < (n : Int)) (7 * n) ∧ Γ = [some (.dat (.int more)), some (.dat (.int (n : Nat))), some (.own (ls.map lnD)), x3, x4, x5, x6]) := by
    refine Goes.range (n := n) (fun i Γ => ∃ ls x3 x4 x5 x6, LsOk n ls (fun p => p.1 < (i : Int)) (7 * i) ∧ Γ = [some (.dat (.int more)), some (.dat (.int (n : Nat))), some (.own (ls.map lnD)), x3, x4, x5, x6]) (mI_ok (a1_ok (by rfl)) (rng1_nat (by omega))) ⟨[], none, none, none, none, ⟨fun p hp => (by cases hp), fun p hp => (by cases hp), List.Pairwise.nil, Nat.le_refl _⟩, rfl⟩ ?_
    rintro i Γ hi ⟨ls, x3, x4, x5, x6, L, rfl⟩
    simp only [List.set_cons_zero, List.set_cons_succ]
    have := Goes.for (p := .nm 4) (it := mI rng2 (mCons (m2 dAdd (mVar 3) (mC (.int 1))) (mCons (mVar 1) (mNil)))) (b := (sSeq (sSet 5 (mN (arg 2 m_L_drawn) (mCons (mVar 0) (mCons (m2 dAdd (m2 dMul (mC (.int 8)) (mVar 3)) (mVar 4)) (mNil))))) (sSeq (sSet 6 (mOr (m2 dEq (mVar 4) (m2 dAdd (mVar 3) (mC (.int 1)))) (mAnd (m2 dEq (mVar 3) (mC (.int 0))) (m2 dEq (mVar 4) (m2 dSub (mVar 1) (mC (.int 1))))))) (sIf (mT (m2 dIx (mN dLst (mCons (m2 dEq (m2 dMod (mVar 5) (mC (.int 2))) (mC (.int 0))) (mCons (m2 dEq (m2 dMod (mVar 5) (mC (.int 4))) (mC (.int 0))) (mCons (m2 dGt (m2 dMod (mVar 5) (mC (.int 5))) (mC (.int 0))) (mCons (mVar 6) (mNil)))))) (m2 dMod (m2 dDiv (mVar 0) (mC (.int 8))) (mC (.int 4))))) (sApp 2 (mN dTup (mCons (mVar 3) (mCons (mVar 4) (mNil))))) (sNext)))))
      (Γ := [some (.dat (.int more)), some (.dat (.int (n : Nat))), some (.own (ls.map lnD)), some (.dat (.int (i : Nat))), x4, x5, x6]) (ds := intsD ((i : Nat) + 1) (((n : Nat) : Int) - ((i : Nat) + 1)).toNat)
      (fun j Γ => ∃ ls x4 x5 x6, LsOk n ls (fun p => p.1 < (i : Int) ∨ p.1 = (i : Int) ∧ p.2 < (i : Int) + 1 + (j : Nat)) (7 * i + j) ∧ Γ = [some (.dat (.int more)), some (.dat (.int (n : Nat))), some (.own (ls.map lnD)), some (.dat (.int (i : Nat))), x4, x5, x6])
      (mI_ok (a2_ok (m2_ok (by rfl) (by rfl) (dAdd_int _ _)) (by rfl)) (rng_two _ _ (by omega) (by omega) (by omega) (by omega))) ⟨ls, x4, x5, x6, ⟨L.ln, fun p hp => .inl (L.lt p hp), L.pw, by have := L.len; omega⟩, rfl⟩ (fun j d Γ hd hI => by
        obtain ⟨ls, x4, x5, x6, L, rfl⟩ := hI
        have hjl : j < (((n : Nat) : Int) - ((i : Nat) + 1)).toNat := by
          have := (List.getElem?_eq_some_iff.mp hd).1
          rw [intsD, List.length_map, List.length_range] at this
          exact this
        obtain rfl : D.int ((i : Nat) + 1 + (j : Nat)) = d := by
          rw [intsD, List.getElem?_map, List.getElem?_range hjl] at hd
          exact Option.some.inj hd
        refine ⟨_, rfl, ?_⟩
        simp only [List.set_cons_zero, List.set_cons_succ]
        obtain ⟨here, ed, b0, b1⟩ := drawn_val more (8 * (i : Nat) + ((i : Nat) + 1 + (j : Nat))) (by omega) (by omega)
        have m8 : dMul (.int 8) (.int ((i : Nat) : Int)) = .ok (.int (8 * ((i : Nat) : Int))) := dMul_l (by decide)
        refine .seq (sSet_ok (f2_ok (by rfl) (m2_ok (m2_ok (by rfl) (by rfl) m8) (by rfl) (dAdd_int _ _)) ed)) ?_
        simp only [List.set_cons_zero, List.set_cons_succ]
        refine .seq (sSet_ok (mOr_bl (m2_ok (by rfl) (m2_ok (by rfl) (by rfl) (dAdd_int _ _)) (dEq_int _ _)) (fun _ => mAnd_bl (m2_ok (by rfl) (by rfl) (dEq_int _ _)) (fun _ => m2_ok (by rfl) (m2_ok (by rfl) (by rfl) (dSub_int _ _)) (dEq_int _ _))))) ?_
        simp only [List.set_cons_zero, List.set_cons_succ]
        generalize (decide ((i : Int) + 1 + (j : Nat) = (i : Int) + 1) || (decide (((i : Nat) : Int) = 0) && decide ((i : Int) + 1 + (j : Nat) = ((n : Nat) : Int) - 1))) = ring
        obtain ⟨d, hd, ei⟩ := dIx_mem (xs := [D.bl (decide (here % 2 = 0)), D.bl (decide (here % 4 = 0)), D.bl (decide (0 < here % 5)), D.bl ring]) (r := more / 8 % 4) r1 (by simpa using r2)
        obtain ⟨t, rfl⟩ : ∃ t, d = .bl t := by
          simp only [List.mem_cons, List.not_mem_nil, or_false] at hd
          rcases hd with rfl | rfl | rfl | rfl <;> exact ⟨_, rfl⟩
        have k2 : dMod (.int here) (.int 2) = .ok (.int (here % 2)) := dMod_ok (by omega)
        have k4 : dMod (.int here) (.int 4) = .ok (.int (here % 4)) := dMod_ok (by omega)
        have k5 : dMod (.int here) (.int 5) = .ok (.int (here % 5)) := dMod_ok (by omega)
        have ec : mT (m2 dIx (mN dLst (mCons (m2 dEq (m2 dMod (mVar 5) (mC (.int 2))) (mC (.int 0))) (mCons (m2 dEq (m2 dMod (mVar 5) (mC (.int 4))) (mC (.int 0))) (mCons (m2 dGt (m2 dMod (mVar 5) (mC (.int 5))) (mC (.int 0))) (mCons (mVar 6) (mNil)))))) (m2 dMod (m2 dDiv (mVar 0) (mC (.int 8))) (mC (.int 4)))) [some (.dat (.int more)), some (.dat (.int (n : Nat))), some (.own (ls.map lnD)), some (.dat (.int (i : Nat))), some (.dat (.int ((i : Nat) + 1 + (j : Nat)))), some (.dat (.int here)), some (.dat (.bl ring))] = .ok t :=
          mT_ok (m2_ok (mN_ok (a4_ok (m2_ok (m2_ok (by rfl) (by rfl) k2) (by rfl) (dEq_int _ _)) (m2_ok (m2_ok (by rfl) (by rfl) k4) (by rfl) (dEq_int _ _)) (m2_ok (m2_ok (by rfl) (by rfl) k5) (by rfl) (dGt_int _ _)) (by rfl)) (by rfl)) (m2_ok (m2_ok (by rfl) (by rfl) d8) (by rfl) d84) ei)
        have hll := L.len
        cases t with
        | false =>
          refine .end (sIf_no ec) ⟨ls, _, _, _, ⟨L.ln, fun p hp => ?_, L.pw, by omega⟩, rfl⟩
          rcases L.lt p hp with z | ⟨z1, z2⟩
          · exact .inl z
          · exact .inr ⟨z1, by omega⟩
        | true =>
          refine .end (sIf_yes ec (sApp_ok (d := lnD (((i : Nat) : Int), (i : Nat) + 1 + (j : Nat))) (by rfl) (mN_ok (a2_ok (by rfl) (by rfl)) (by rfl)) (by rw [List.length_map]; unfold LIM; omega))) ⟨ls ++ [(((i : Nat) : Int), ((i : Nat) : Int) + 1 + (j : Nat))], some (.dat (.int ((i : Nat) + 1 + (j : Nat)))), some (.dat (.int here)), some (.dat (.bl ring)), ⟨fun p hp => ?_, fun p hp => ?_, ?_, ?_⟩, ?_⟩
          · rcases List.mem_append.mp hp with z | z
            · exact L.ln p z
            · rw [List.mem_singleton] at z
              rw [z]
              simp only
              omega
          · rcases List.mem_append.mp hp with z | z
            · rcases L.lt p z with z | ⟨z1, z2⟩
              · exact .inl z
              · exact .inr ⟨z1, by omega⟩
            · rw [List.mem_singleton] at z
              rw [z]
              exact .inr ⟨rfl, by simp only; omega⟩
          · refine List.pairwise_append.mpr ⟨L.pw, List.pairwise_singleton _ _, fun a ha b hb => ?_⟩
            rw [List.mem_singleton] at hb
            rw [hb]
            have := L.lt a ha
            unfold lxP
            rw [decide_eq_true_iff]
            exact this
          · rw [List.length_append, List.length_singleton]
            omega
          · simp only [List.set_cons_zero, List.set_cons_succ, List.map_append, List.map_cons, List.map_nil])
    refine K70.Goes.mono this ?_
    rintro Γ ⟨ls, x4, x5, x6, L, rfl⟩
    rw [intsD, List.length_map, List.length_range] at L
    refine ⟨ls, _, _, _, _, ⟨L.ln, fun p hp => ?_, L.pw, ?_⟩, rfl⟩
    · rcases L.lt p hp with z | ⟨z1, z2⟩ <;> omega
    · have := L.len
      omega
  obtain ⟨Γ', eg, ls, x3, x4, x5, x6, L, rfl⟩ := G
  refine ⟨n, ls, defM_rt ?_, ⟨by omega, by omega, L.ln, L.pw, by have := L.len; omega⟩⟩
  show sSeq _ _ [some (.dat (.int more)), none, none, none, none, none, none] = _
  rw [sSeq_nx (sSet_ok (d := .int (n : Nat)) (m2_ok (by rfl) (m2_ok (by rfl) (by rfl) e1) (by rw [hn]; exact dAdd_int _ _)))]
  simp only [List.set_cons_zero, List.set_cons_succ]
  rw [sSeq_nx (sOwn_ok (ds := []) (by rfl) (by simp))]
  simp only [List.set_cons_zero, List.set_cons_succ]
  rw [sSeq_nx eg]
  rfl
theorem mCons_exc1 {a : FL.Env → Out D} {b : FL.Env → Out (List D)} {Γ : FL.Env} {c : Str} (h : a Γ = .exc c) : mCons a b Γ = .exc c := by
  unfold mCons
  rw [h]
  rfl
theorem mCons_exc2 {a : FL.Env → Out D} {b : FL.Env → Out (List D)} {Γ : FL.Env} {c : Str} {x : D} (ha : a Γ = .ok x) (h : b Γ = .exc c) : mCons a b Γ = .exc c := by
  unfold mCons
  rw [ha, Out.bind, h]
  rfl
theorem mN_exc {f : List D → Out D} {a : FL.Env → Out (List D)} {Γ : FL.Env} {c : Str} (h : a Γ = .exc c) : mN f a Γ = .exc c := by
  unfold mN
  rw [h]
  rfl
theorem sRet_exc {m : FL.Env → Out D} {Γ : FL.Env} {c : Str} (h : m Γ = .exc c) : sRet m Γ = .exc c := by
  unfold sRet
  rw [h]
  rfl
theorem halves_bad {odd : D} (h : m_need_web [odd] = .exc "BadWeb") : m_halves_of [odd] = .exc "BadWeb" := by
  refine defM_exc ?_
  exact drop_exc (f1_ok (x := odd) (by rfl) h)
theorem far_bad {x y : D} (h : m_need_web [.tup [x, y]] = .exc "BadWeb") : m_far_halves [.tup [x, y]] = .exc "BadWeb" := by
  refine defM_exc ?_
  refine sRet_exc (mN_exc (mCons_exc2 (m2_ok (x := .tup [x, y]) (by rfl) (by rfl) dIx_tup1) (mCons_exc1 (f1_ok (x := .tup [x, y]) (by rfl) (halves_bad h)))))
theorem one_line {n : Int} {d : D} (h : m_is_line [d, .int n] = .ok (.bl false)) : m_need_web [.tup [.int n, .lst [d]]] = .exc "BadWeb" :=
  web_bad (q := fun _ => false) (fun x hx => by rw [List.mem_singleton] at hx; rw [hx]; exact h) (by simp) (fun z => by cases z.2)
def oddL (n : Nat) : List D := [.tup [.int 0, .lst []], .tup [.int 11, .lst []], .tup [.int (n : Nat), .lst [.tup [.int 0, .int 0]]], .tup [.int (n : Nat), .lst [.tup [.int 1, .int 0]]], .tup [.int (n : Nat), .lst [.tup [.int 0, .int (n : Nat)]]]] ++ [.tup [.int (n : Nat), .lst [.lst [.int 0, .int 1]]], .tup [.int (n : Nat), .non]] ++ [.tup [.int 8, .lst [.tup [.int 0, .int 1], .tup [.int 0, .int 1]]], .tup [.int 8, .lst [.tup [.int 1, .int 2], .tup [.int 0, .int 1]]], .tup [.int (n : Nat), .lst [.tup [.int 0, .bl true]]]] ++ [.tup [.int 8, .lst [.tup [.int 0, .int 1, .int 2]]], .tup [.int (n : Nat), .lst [.tup [.int (-1), .int 0]]]]
theorem odd_bad {n : Nat} (h1 : 1 ≤ n) (h7 : n ≤ 7) : ∀ d ∈ oddL n, (∃ x y, d = .tup [x, y]) ∧ m_need_web [d] = .exc "BadWeb" := by
  have li : ∀ a b : Int, ¬ (0 ≤ a ∧ a < b ∧ b < (n : Int)) → m_is_line [.tup [.int a, .int b], .int (n : Nat)] = .ok (.bl false) := fun a b h => by
    refine (line_int a b (n : Nat)).trans ?_
    congr 2
    cases z : ((decide (0 ≤ a) && decide (a < (n : Int))) && (decide (0 ≤ b) && decide (b < (n : Int))) && decide (a < b)) with
    | false => rfl
    | true =>
      simp only [Bool.and_eq_true, decide_eq_true_iff] at z
      exact absurd ⟨z.1.1.1, z.2, z.1.2.2⟩ h
  intro d hd
  unfold oddL at hd
  simp only [List.cons_append, List.nil_append, List.mem_cons, List.not_mem_nil, or_false] at hd
  rcases hd with rfl | rfl | rfl | rfl | rfl | rfl | rfl | rfl | rfl | rfl | rfl | rfl
  · exact ⟨⟨_, _, rfl⟩, web_bad (q := fun _ => true) (fun x hx => by cases hx) (by simp) (fun z => by simp at z)⟩
  · exact ⟨⟨_, _, rfl⟩, web_bad (q := fun _ => true) (fun x hx => by cases hx) (by simp) (fun z => by simp at z)⟩
  · exact ⟨⟨_, _, rfl⟩, one_line (li 0 0 (by omega))⟩
  · exact ⟨⟨_, _, rfl⟩, one_line (li 1 0 (by omega))⟩
  · exact ⟨⟨_, _, rfl⟩, one_line (li 0 (n : Nat) (by omega))⟩
  · exact ⟨⟨_, _, rfl⟩, one_line (line_not rfl)⟩
  · exact ⟨⟨_, _, rfl⟩, web_none⟩
  · exact ⟨⟨_, _, rfl⟩, web_fall (ls := [(0, 1), (0, 1)]) (by simp) (by decide)⟩
  · exact ⟨⟨_, _, rfl⟩, web_fall (ls := [(1, 2), (0, 1)]) (by simp) (by decide)⟩
  · refine ⟨⟨_, _, rfl⟩, one_line ?_⟩
    have := line_pair (x := .int 0) (y := .bl true) (n := (n : Nat)) (node_int 0 (n : Nat)) (node_bl true (n : Nat)) false (fun _ h => by cases h)
    rw [Bool.and_false] at this
    exact this
  · exact ⟨⟨_, _, rfl⟩, one_line (line_long (by simp))⟩
  · exact ⟨⟨_, _, rfl⟩, one_line (li (-1) 0 (by omega))⟩
end K70
set_option Elab.async false
set_option linter.all false
set_option maxRecDepth 100000
set_option maxHeartbeats 4000000
namespace K70
open PySem PySem.Spec PyProof.Rows L2 LamX FL
theorem gd_ls (ls : List (Int × Int)) : gd 8 (lsD ls) = true := by
  show (ls.map lnD).all (gd 7) = true
  rw [List.all_map, List.all_eq_true]
  exact fun _ _ => rfl
theorem gd_h (h : List Int) : gd 8 (hD h) = true := gd_ints 7 h
theorem law_true (ns : List Int) (hl : ns.length ≤ 63) : m_law [.scr ns] = .ok (.bl true) := by
  refine defM_rt (sSeq_ex ?_ fun Γ' => rfl)
  obtain ⟨t, ht, dm, em, et⟩ := times_val ns.length 3 (by omega)
  refine Goes.ex (Goes.range (n := t) (fun _ Γ => ∃ x1 x2 x3 x4 x5 x6 x7 x8 x9 x10 x11 x12 x13 x14 x15 x16 x17, Γ = [some (.dat (.scr ns)), x1, x2, x3, x4, x5, x6, x7, x8, x9, x10, x11, x12, x13, x14, x15, x16, x17])
    (mI_ok (a1_ok (b2_ok (by rfl) (b2_ok (by rfl) (b1_ok (a := mVar 0) (by rfl) (dLen_scr ns)) em) et)) (rng1_nat (by omega))) ⟨_, _, _, _, _, _, _, _, _, _, _, _, _, _, _, _, _, rfl⟩ ?_)
  rintro k Γ hk ⟨x1, x2, x3, x4, x5, x6, x7, x8, x9, x10, x11, x12, x13, x14, x15, x16, x17, rfl⟩
  simp only [List.set_cons_zero, List.set_cons_succ]
  obtain ⟨cell, ec⟩ := cell_val ns k (by omega) hl
  obtain ⟨more, ed, hm0, hm1⟩ := drawn_val cell (k : Nat) (by omega) (by omega)
  obtain ⟨n, ls, ew, W⟩ := web_drawn more hm0
  have h1 := W.n1
  have h7 := W.n7
  have hlen := W.len
  refine .seq (sSet_ok (f2_ok (f2_ok (by rfl) (by rfl) ec) (by rfl) ed)) ?_
  simp only [List.set_cons_zero, List.set_cons_succ]
  refine .seq (sSet_ok (f1_ok (by rfl) ew)) ?_
  simp only [List.set_cons_zero, List.set_cons_succ]
  refine .seq (Γ' := [some (.dat (.scr ns)), some (.dat (.int (k : Nat))), some (.dat (.int more)), some (.dat (webD n ls)), some (.dat (.int (n : Nat))), some (.dat (lsD ls)), x6, x7, x8, x9, x10, x11, x12, x13, x14, x15, x16, x17]) (by rfl) ?_
  refine .seq (sSet_ok (d := lsD ls) (b1_ok (by rfl) (by rfl))) ?_
  simp only [List.set_cons_zero, List.set_cons_succ]
  refine .seq (sSet_ok (f1_ok (by rfl) (lists_val n h1 (by omega)))) ?_
  simp only [List.set_cons_zero, List.set_cons_succ]
  refine .seq (sSet_ok (counts_ev W (by rfl) (fun h hh => ⟨_, rfl, f2_ok (by rfl) (by rfl) (lbad_val W (by have := hal_hlen hh; omega))⟩))) ?_
  simp only [List.set_cons_zero, List.set_cons_succ]
  obtain ⟨m, j, h, b1, b2, b3, b4, b5⟩ := best_val W
  have eh := halvesOf_val W b1 b2 b3
  have ef := farHalves_val W eh b4
  rw [b5] at ef
  refine .seq (sIf_no (mT_ok (m2_ok (d := .bl false) (mTold_ok (f1_ok (by rfl) ef)) (b1_ok (by rfl) b1) (dNe_self rfl)))) ?_
  refine .seq (sIf_no (mT_ok (m2_ok (d := .bl false) (mTold_ok (f1_ok (by rfl) eh)) (m2_ok (y := .int (j : Nat)) (by rfl) ?_ b3) (dNe_self (gd_h h))))) ?_
  · show (mN (c1 dMin) (mCons (mVar 8) (mNil)) _).bind (dIndex _) = _
    rw [b1_ok (by rfl) b1]
    exact b2
  refine .seq (sSet_ok (d := .lst ((List.range (n + 1)).map fun c => shD ls n c)) (mComp_all (fun c => D.int ((c : Nat) : Int)) _ (mI_ok (a1_ok (m2_ok (by rfl) (by rfl) (dAdd_int _ _))) (by rw [show ((n : Nat) : Int) + 1 = ((n + 1 : Nat) : Int) by omega]; exact rng1_nat (by omega))) (fun c hc => ⟨_, rfl, mTold_ok (f2_ok (by rfl) (by rfl) (byNodes_val W (by have := List.mem_range.mp hc; omega)))⟩) (by rw [List.length_range]; unfold LIM; omega))) ?_
  simp only [List.set_cons_zero, List.set_cons_succ]
  refine .seq (sIf_no (mT_ok (m2_ok (d := .bl false) (b1_ok (o := .ok (lsD ls)) (by rfl) (by rfl)) (by rfl) (dNe_self (gd_ls ls))))) ?_
  -- the shares
  refine Goes.seq' (Q := fun Γ => ∃ y10 y11 y12, Γ = [some (.dat (.scr ns)), some (.dat (.int (k : Nat))), some (.dat (.int more)), some (.dat (webD n ls)), some (.dat (.int (n : Nat))), some (.dat (lsD ls)), some (.dat (lsD ls)), some (.dat (hsD (hal (n - 1)))), some (.dat (.lst ((bads n ls).map D.int))), some (.dat (.lst ((List.range (n + 1)).map fun c => shD ls n c))), y10, y11, y12, x13, x14, x15, x16, x17]) ?_ ?_
  · have hen := enum_map (fun c => shD ls n c) 0 (List.range (n + 1))
    rw [List.length_range] at hen
    refine K70.Goes.mono (Goes.for (p := .tp [10, 11]) (ds := (List.range (n + 1)).map fun i => D.tup [.int ((i : Nat) : Int), shD ls n ((List.range (n + 1)).getD i 0)]) (fun _ Γ => ∃ y10 y11 y12, Γ = [some (.dat (.scr ns)), some (.dat (.int (k : Nat))), some (.dat (.int more)), some (.dat (webD n ls)), some (.dat (.int (n : Nat))), some (.dat (lsD ls)), some (.dat (lsD ls)), some (.dat (hsD (hal (n - 1)))), some (.dat (.lst ((bads n ls).map D.int))), some (.dat (.lst ((List.range (n + 1)).map fun c => shD ls n c))), y10, y11, y12, x13, x14, x15, x16, x17]) (mI_ok (a1_ok (by rfl)) hen) ⟨x10, x11, x12, rfl⟩ ?_) (fun Γ h => h)
    rintro i d Γ hd ⟨y10, y11, y12, rfl⟩
    have hil : i < n + 1 := by
      have := (List.getElem?_eq_some_iff.mp hd).1
      simpa using this
    obtain rfl : D.tup [.int ((i : Nat) : Int), shD ls n i] = d := by
      rw [List.getElem?_map, List.getElem?_range hil] at hd
      have e : D.tup [.int ((i : Nat) : Int), shD ls n ((List.range (n + 1)).getD i 0)] = d := Option.some.inj hd
      rw [show (List.range (n + 1)).getD i 0 = i by simp [List.getD, List.getElem?_range hil]] at e
      exact e
    refine ⟨[some (.dat (.scr ns)), some (.dat (.int (k : Nat))), some (.dat (.int more)), some (.dat (webD n ls)), some (.dat (.int (n : Nat))), some (.dat (lsD ls)), some (.dat (lsD ls)), some (.dat (hsD (hal (n - 1)))), some (.dat (.lst ((bads n ls).map D.int))), some (.dat (.lst ((List.range (n + 1)).map fun c => shD ls n c))), some (.dat (.int ((i : Nat) : Int))), some (.dat (shD ls n i)), y12, x13, x14, x15, x16, x17], rfl, ?_⟩
    refine .seq (sSet_ok (f2_ok (by rfl) (by rfl) (choices_val n i h7))) ?_
    simp only [List.set_cons_zero, List.set_cons_succ]
    have gsh : gd 8 (shD ls n i) = true := rfl
    refine .seq (sIf_no (mT_ok (m2_ok (d := .bl false) (by rfl) (lmade_val W (c := i) (by omega) (by rfl) (by rfl) (fun d => by rfl) (fun d => by rfl)) (dNe_self gsh)))) ?_
    refine .end (sIf_no ?_) ⟨_, _, _, rfl⟩
    have eg := dGt_int (i : Nat) 0
    by_cases hi0 : i = 0
    · subst hi0
      exact tAnd_ok (x := false) (y := false) (mT_ok (m2_ok (by rfl) (by rfl) eg)) (fun h => by cases h)
    · obtain ⟨c, rfl⟩ : ∃ c, i = c + 1 := ⟨i - 1, by omega⟩
      rw [decide_eq_true (by omega)] at eg
      have ei : dIx (.lst ((List.range (n + 1)).map fun c => shD ls n c)) (.int ((c : Nat) : Int)) = .ok (shD ls n c) := by
        have := ix_map (fun c => shD ls n c) 0 (xs := List.range (n + 1)) (j := c) (by rw [List.length_range]; omega)
        rw [show (List.range (n + 1)).getD c 0 = c by simp [List.getD, List.getElem?_range (show c < n + 1 by omega)]] at this
        exact this
      have es : dSub (.int ((c + 1 : Nat) : Int)) (.int 1) = .ok (.int ((c : Nat) : Int)) := by
        rw [dSub_int, show ((c + 1 : Nat) : Int) - 1 = (c : Nat) by omega]
      exact tAnd_ok (x := true) (y := false) (mT_ok (m2_ok (by rfl) (by rfl) eg)) (fun _ => mT_ok (f2_ok (by rfl) (m2_ok (by rfl) (m2_ok (by rfl) (by rfl) es) ei) (less_sh W (by omega))))
  rintro Γ ⟨y10, y11, y12, rfl⟩
  -- what is no web
  have neg1 : dNeg (.int 1) = .ok (.int (-1)) := rfl
  refine .seq (sSet_ok (d := .lst [.tup [.int 0, .lst []], .tup [.int 11, .lst []], .tup [.int (n : Nat), .lst [.tup [.int 0, .int 0]]], .tup [.int (n : Nat), .lst [.tup [.int 1, .int 0]]], .tup [.int (n : Nat), .lst [.tup [.int 0, .int (n : Nat)]]]]) (by simp only [sSeq, sSet, sIf, sRet, sDrop, sOwn, sApp, sExtd, sFrz, sPar, sTup, sFor, bindP, setAll, sRaise, sNext, SO.ofO, SO.ofB, SO.ofA, FL.mN, mCons, mNil, mVar, mC, FL.c1, FL.c2, FL.m1, FL.m2, Out.bind, arg, frzE, ownAt, mT, toB, tAndM, tOrM, tNotM, tYesM, mIf, mAnd, mOr, dNot, mSl, oNone, oSome, mI, mItems, items, mOIx, mOItems, mL, List.map_cons, List.map_nil, List.replicate, List.cons_append, List.nil_append, List.getElem?_cons_zero, List.getElem?_cons_succ, List.set_cons_succ, List.set_cons_zero, List.length_cons, List.length_nil, Nat.zero_add, Nat.reduceAdd, if_true, reduceCtorEq, wipeE, reduceIte, Bool.not_true, Bool.not_false, Bool.false_eq_true, dLst, dTup, LIM, Nat.reduceLeDiff, Nat.zero_le])) ?_
  simp only [List.set_cons_zero, List.set_cons_succ]
  refine .seq (sSet_ok (d := .lst ([.tup [.int 0, .lst []], .tup [.int 11, .lst []], .tup [.int (n : Nat), .lst [.tup [.int 0, .int 0]]], .tup [.int (n : Nat), .lst [.tup [.int 1, .int 0]]], .tup [.int (n : Nat), .lst [.tup [.int 0, .int (n : Nat)]]]] ++ [.tup [.int (n : Nat), .lst [.lst [.int 0, .int 1]]], .tup [.int (n : Nat), .non]])) (by simp only [sSeq, sSet, sIf, sRet, sDrop, sOwn, sApp, sExtd, sFrz, sPar, sTup, sFor, bindP, setAll, sRaise, sNext, SO.ofO, SO.ofB, SO.ofA, FL.mN, mCons, mNil, mVar, mC, FL.c1, FL.c2, FL.m1, FL.m2, Out.bind, arg, frzE, ownAt, mT, toB, tAndM, tOrM, tNotM, tYesM, mIf, mAnd, mOr, dNot, mSl, oNone, oSome, mI, mItems, items, mOIx, mOItems, mL, List.map_cons, List.map_nil, List.replicate, List.cons_append, List.nil_append, List.getElem?_cons_zero, List.getElem?_cons_succ, List.set_cons_succ, List.set_cons_zero, List.length_cons, List.length_nil, Nat.zero_add, Nat.reduceAdd, if_true, reduceCtorEq, wipeE, reduceIte, Bool.not_true, Bool.not_false, Bool.false_eq_true, dLst, dTup, LIM, Nat.reduceLeDiff, Nat.zero_le, dAdd_lit])) ?_
  simp only [List.set_cons_zero, List.set_cons_succ]
  refine .seq (sSet_ok (d := .lst ([.tup [.int 0, .lst []], .tup [.int 11, .lst []], .tup [.int (n : Nat), .lst [.tup [.int 0, .int 0]]], .tup [.int (n : Nat), .lst [.tup [.int 1, .int 0]]], .tup [.int (n : Nat), .lst [.tup [.int 0, .int (n : Nat)]]]] ++ [.tup [.int (n : Nat), .lst [.lst [.int 0, .int 1]]], .tup [.int (n : Nat), .non]] ++ [.tup [.int 8, .lst [.tup [.int 0, .int 1], .tup [.int 0, .int 1]]], .tup [.int 8, .lst [.tup [.int 1, .int 2], .tup [.int 0, .int 1]]], .tup [.int (n : Nat), .lst [.tup [.int 0, .bl true]]]])) (by simp only [sSeq, sSet, sIf, sRet, sDrop, sOwn, sApp, sExtd, sFrz, sPar, sTup, sFor, bindP, setAll, sRaise, sNext, SO.ofO, SO.ofB, SO.ofA, FL.mN, mCons, mNil, mVar, mC, FL.c1, FL.c2, FL.m1, FL.m2, Out.bind, arg, frzE, ownAt, mT, toB, tAndM, tOrM, tNotM, tYesM, mIf, mAnd, mOr, dNot, mSl, oNone, oSome, mI, mItems, items, mOIx, mOItems, mL, List.map_cons, List.map_nil, List.replicate, List.cons_append, List.nil_append, List.getElem?_cons_zero, List.getElem?_cons_succ, List.set_cons_succ, List.set_cons_zero, List.length_cons, List.length_nil, Nat.zero_add, Nat.reduceAdd, if_true, reduceCtorEq, wipeE, reduceIte, Bool.not_true, Bool.not_false, Bool.false_eq_true, dLst, dTup, LIM, Nat.reduceLeDiff, Nat.zero_le, dAdd_lit])) ?_
  simp only [List.set_cons_zero, List.set_cons_succ]
  refine .seq (sSet_ok (d := .lst (oddL n)) (by simp only [sSeq, sSet, sIf, sRet, sDrop, sOwn, sApp, sExtd, sFrz, sPar, sTup, sFor, bindP, setAll, sRaise, sNext, SO.ofO, SO.ofB, SO.ofA, FL.mN, mCons, mNil, mVar, mC, FL.c1, FL.c2, FL.m1, FL.m2, Out.bind, arg, frzE, ownAt, mT, toB, tAndM, tOrM, tNotM, tYesM, mIf, mAnd, mOr, dNot, mSl, oNone, oSome, mI, mItems, items, mOIx, mOItems, mL, List.map_cons, List.map_nil, List.replicate, List.cons_append, List.nil_append, List.getElem?_cons_zero, List.getElem?_cons_succ, List.set_cons_succ, List.set_cons_zero, List.length_cons, List.length_nil, Nat.zero_add, Nat.reduceAdd, if_true, reduceCtorEq, wipeE, reduceIte, Bool.not_true, Bool.not_false, Bool.false_eq_true, dLst, dTup, LIM, Nat.reduceLeDiff, Nat.zero_le, dAdd_lit, neg1, oddL])) ?_
  simp only [List.set_cons_zero, List.set_cons_succ]
  have p20 : dPow (.int 2) (.int 20) = .ok (.int 1048576) := rfl
  have o3 : dDiv (.int more) (.int 1048576) = .ok (.int (more / 1048576)) := dDiv_64 (by omega) (by omega)
  have o4 : dMod (.int (more / 1048576)) (.int 12) = .ok (.int (more / 1048576 % 12)) := dMod_ok (by omega)
  obtain ⟨odd, hodd, eo⟩ := dIx_mem (xs := oddL n) (r := more / 1048576 % 12) (by omega) (by show _ < ((12 : Nat) : Int); omega)
  obtain ⟨⟨ox, oy, hxy⟩, hbad⟩ := odd_bad h1 h7 odd hodd
  refine .seq (sSet_ok (d := odd) (m2_ok (by rfl) (m2_ok (m2_ok (by rfl) (m2_ok (by rfl) (by rfl) p20) o3) (by rfl) o4) eo)) ?_
  simp only [List.set_cons_zero, List.set_cons_succ]
  have hs : gd 8 (.lst [.str "BadWeb", .str "BadWeb"]) = true := by decide +kernel
  have hs1 : gd 8 (.str "BadWeb") = true := by decide +kernel
  have hs2 : gd 8 (.lst [.str "BadTest", .str "BadTest"]) = true := by decide +kernel
  have hfar : m_far_halves [odd] = .exc "BadWeb" := by
    subst hxy
    exact far_bad hbad
  have hhal := halves_bad hbad
  refine .seq (sIf_no (mT_ok (m2_ok (x := .lst [.str "BadWeb", .str "BadWeb"]) (d := .bl false) (mComp_all (xs := [true, false]) (fun b => D.fn (if b = true then "far_halves" else "halves_of")) (fun _ => D.str "BadWeb") (by rfl) (fun b hb => ?_) (by unfold LIM; simp)) (by rfl) (dNe_self hs)))) ?_
  · cases b with
    | true => exact ⟨_, rfl, mTold_exc ((show _ = mN (arg 1 m_far_halves) (mCons (mVar 14) (mNil)) _ from rfl).trans (f1_ok (x := odd) (by rfl) hfar)) (by decide)⟩
    | false => exact ⟨_, rfl, mTold_exc ((show _ = mN (arg 1 m_halves_of) (mCons (mVar 14) (mNil)) _ from rfl).trans (f1_ok (x := odd) (by rfl) hhal)) (by decide)⟩
  refine .seq (sIf_no (mT_ok (m2_ok (d := .bl false) (mTold_exc (f2_ok (by rfl) (m1_ok (by rfl) neg1) (byNodes_web hbad)) (by decide)) (by rfl) (dNe_self hs1)))) ?_
  refine .end (sIf_no (mT_ok (m2_ok (x := .lst [.str "BadTest", .str "BadTest"]) (d := .bl false) (mComp_all (xs := [(-1 : Int), (n : Int) + 1]) D.int (fun _ => D.str "BadTest") (by rfl) (fun c hc => ⟨_, rfl, mTold_exc (f2_ok (by rfl) (by rfl) (byNodes_test W (by
    simp only [List.mem_cons, List.not_mem_nil, or_false] at hc
    rcases hc with rfl | rfl <;> omega))) (by decide)⟩) (by unfold LIM; simp)) (by rfl) (dNe_self hs2)))) ⟨_, _, _, _, _, _, _, _, _, _, _, _, _, _, _, _, _, rfl⟩
end K70
set_option Elab.async false
set_option linter.all false
set_option maxRecDepth 100000
set_option maxHeartbeats 4000000
namespace K70
open PySem PySem.Spec PyProof.Rows L2 LamX FL
def d_fraction : He.DefD := ⟨("fraction", none), "fraction", "fraction", defArgs (topS 10), defBody (topS 10), defScope (topS 10), [], []⟩
def d_need_test : He.DefD := ⟨("need_test", none), "need_test", "need_test", defArgs (topS 12), defBody (topS 12), defScope (topS 12), [], []⟩
def d_all_looks : He.DefD := ⟨("all_looks", none), "all_looks", "all_looks", defArgs (topS 14), defBody (topS 14), defScope (topS 14), [], []⟩
def d_is_node : He.DefD := ⟨("is_node", none), "is_node", "is_node", defArgs (topS 17), defBody (topS 17), defScope (topS 17), [], []⟩
def d_is_line : He.DefD := ⟨("is_line", none), "is_line", "is_line", defArgs (topS 18), defBody (topS 18), defScope (topS 18), [], []⟩
def d_need_web : He.DefD := ⟨("need_web", none), "need_web", "need_web", defArgs (topS 19), defBody (topS 19), defScope (topS 19), [], []⟩
def d_all_halves : He.DefD := ⟨("all_halves", none), "all_halves", "all_halves", defArgs (topS 20), defBody (topS 20), defScope (topS 20), [], []⟩
def d_bad_lines : He.DefD := ⟨("bad_lines", none), "bad_lines", "bad_lines", defArgs (topS 21), defBody (topS 21), defScope (topS 21), [], []⟩
def d_halves_of : He.DefD := ⟨("halves_of", none), "halves_of", "halves_of", defArgs (topS 22), defBody (topS 22), defScope (topS 22), [], []⟩
def d_far_halves : He.DefD := ⟨("far_halves", none), "far_halves", "far_halves", defArgs (topS 23), defBody (topS 23), defScope (topS 23), [], []⟩
def d_are_so : He.DefD := ⟨("are_so", none), "are_so", "are_so", defArgs (topS 24), defBody (topS 24), defScope (topS 24), [], []⟩
def d_by_nodes : He.DefD := ⟨("by_nodes", none), "by_nodes", "by_nodes", defArgs (topS 25), defBody (topS 25), defScope (topS 25), [], []⟩
def d_L_cell : He.DefD := ⟨("_law_cell", none), "_law_cell", "_law_cell", defArgs (topS 27), defBody (topS 27), defScope (topS 27), [], []⟩
def d_L_drawn : He.DefD := ⟨("_law_drawn", none), "_law_drawn", "_law_drawn", defArgs (topS 28), defBody (topS 28), defScope (topS 28), [], []⟩
def d_L_word : He.DefD := ⟨("_law_word", none), "_law_word", "_law_word", defArgs (topS 29), defBody (topS 29), defScope (topS 29), [], []⟩
def d_L_told : He.DefD := ⟨("_law_told", none), "_law_told", "_law_told", defArgs (topS 30), defBody (topS 30), defScope (topS 30), [], []⟩
def d_L_made : He.DefD := ⟨("_law_made", none), "_law_made", "_law_made", defArgs (topS 31), defBody (topS 31), defScope (topS 31), [], []⟩
def d_L_less : He.DefD := ⟨("_law_less", none), "_law_less", "_law_less", defArgs (topS 32), defBody (topS 32), defScope (topS 32), [], []⟩
def d_L_web : He.DefD := ⟨("_law_web", none), "_law_web", "_law_web", defArgs (topS 33), defBody (topS 33), defScope (topS 33), [], []⟩
def d_L_lists : He.DefD := ⟨("_law_lists", none), "_law_lists", "_law_lists", defArgs (topS 34), defBody (topS 34), defScope (topS 34), [], []⟩
def d_L_bad : He.DefD := ⟨("_law_bad", none), "_law_bad", "_law_bad", defArgs (topS 35), defBody (topS 35), defScope (topS 35), [], []⟩
def d_L_choices : He.DefD := ⟨("_law_choices", none), "_law_choices", "_law_choices", defArgs (topS 36), defBody (topS 36), defScope (topS 36), [], []⟩
def d_L_is_so : He.DefD := ⟨("_law_is_so", none), "_law_is_so", "_law_is_so", defArgs (topS 37), defBody (topS 37), defScope (topS 37), [], []⟩
def d_law : He.DefD := ⟨("law", none), "law", "law", defArgs (topS 38), defBody (topS 38), defScope (topS 38), [], []⟩
def fn : List He.DefD := [d_fraction, d_need_test, d_all_looks, d_is_node, d_is_line, d_need_web, d_all_halves, d_bad_lines, d_halves_of, d_far_halves, d_are_so, d_by_nodes, d_L_cell, d_L_drawn, d_L_word, d_L_told, d_L_made, d_L_less, d_L_web, d_L_lists, d_L_bad, d_L_choices, d_L_is_so, d_law]
def fa : List He.Fa := [.glo "fraction", .glo "need_test", .glo "all_looks", .glo "is_node", .glo "is_line", .glo "need_web", .glo "all_halves", .glo "bad_lines", .glo "halves_of", .glo "far_halves", .glo "are_so", .glo "by_nodes", .glo "_law_cell", .glo "_law_drawn", .glo "_law_word", .glo "_law_told", .glo "_law_made", .glo "_law_less", .glo "_law_web", .glo "_law_lists", .glo "_law_bad", .glo "_law_choices", .glo "_law_is_so", .glo "law", .glo "LookError", .glo "BadKind", .glo "BadWord", .glo "BadTest", .glo "BadRow", .glo "BadTable", .glo "BadWeb", .glo "NoFar", .exc "BadKind", .exc "BadWord", .exc "BadTest", .exc "BadRow", .exc "BadTable", .exc "BadWeb", .exc "NoFar", .exm "BadKind" "LookError" true, .exm "BadWord" "LookError" true, .exm "BadTest" "LookError" true, .exm "BadRow" "LookError" true, .exm "BadTable" "LookError" true, .exm "BadWeb" "LookError" true, .exm "NoFar" "LookError" true, .free "ValueError", .free "abs", .free "all", .free "any", .free "bool", .free "enumerate", .free "int", .free "isinstance", .free "len", .free "list", .free "max", .free "min", .free "range", .free "sorted", .free "sum", .free "tuple", .free "zip", .int "MOST_NODES" 10]
def ex (K : PySem.W.Frag) : Bool := wordB K ns
def tf : List He.Defn := [("law", none)]
abbrev R : PySem.W.OpenRow := PySem.W.OpenLaw.row PySem.Challenge.rw_fewlooks_k70_whole_halves
abbrev hk : PySem.W.Hook := He.hookX 6 fa fn [] tf ex
def ob (s : PySem.W.SharedT) : He.AlX := He.obsX 6 fa fn [] tf ex (HandSHeadRun.getT s)
theorem ob_eq (s : PySem.W.SharedT) : ob s = hk.obs s.abs := He.obsX_eq (HandSHeadRun.getT_eq s)
def loose : List Str := (["MOST_NODES", "LookError", "BadKind", "BadWord", "BadTest", "BadRow", "BadTable", "BadWeb", "NoFar", "fraction", "need_test", "all_looks", "is_node", "is_line", "need_web", "all_halves", "bad_lines", "halves_of", "far_halves", "are_so", "by_nodes", "_law_cell", "_law_drawn", "_law_word", "_law_told", "_law_made", "_law_less", "_law_web", "_law_lists", "_law_bad"] : List Str) ++ (["_law_choices", "_law_is_so"] : List Str)
set_option maxHeartbeats 0 in
theorem run (w : World) : HandSHeadRun.RunEq R (PySem.W.view R.prog [38]) hk ob 4000 loose w := by
  intro os
  kernel_rfl
def Tb (K : PySem.W.Frag) : List (Addr × Str) := [((He.cT K ("law", none)).2, ("law" ++ ".<locals>.") ++ "<lambda>")]
theorem facts {P : Program} {w : World} {K : PySem.W.Frag} {h base : Heap} {mg : Str → Option Value} (X : K.In h) (G0 : h.Ns mainGlobals mg) (c : He.SaysD fa fn K) (cx : ex K = true) (TB : ∀ p ∈ tf.map (He.cT K), TabB base mg p.1 p.2) {fd : FuncData} (FL0 : FunD K "law" "law" (defArgs (topS 38)) (defBody (topS 38)) (defScope (topS 38)) [] [] (He.ga K "law") fd) : FnOk P w K mg base (L2N.CX P w) 8 (He.ga K "law") fd ["script"] (spOf K mg (Tb K) 1 m_law) := by
  obtain ⟨fd_fraction, F_fraction⟩ := c.def_ 0 (d := d_fraction) rfl
  obtain ⟨fd_need_test, F_need_test⟩ := c.def_ 1 (d := d_need_test) rfl
  obtain ⟨fd_all_looks, F_all_looks⟩ := c.def_ 2 (d := d_all_looks) rfl
  obtain ⟨fd_is_node, F_is_node⟩ := c.def_ 3 (d := d_is_node) rfl
  obtain ⟨fd_is_line, F_is_line⟩ := c.def_ 4 (d := d_is_line) rfl
  obtain ⟨fd_need_web, F_need_web⟩ := c.def_ 5 (d := d_need_web) rfl
  obtain ⟨fd_all_halves, F_all_halves⟩ := c.def_ 6 (d := d_all_halves) rfl
  obtain ⟨fd_bad_lines, F_bad_lines⟩ := c.def_ 7 (d := d_bad_lines) rfl
  obtain ⟨fd_halves_of, F_halves_of⟩ := c.def_ 8 (d := d_halves_of) rfl
  obtain ⟨fd_far_halves, F_far_halves⟩ := c.def_ 9 (d := d_far_halves) rfl
  obtain ⟨fd_are_so, F_are_so⟩ := c.def_ 10 (d := d_are_so) rfl
  obtain ⟨fd_by_nodes, F_by_nodes⟩ := c.def_ 11 (d := d_by_nodes) rfl
  obtain ⟨fd_L_cell, F_L_cell⟩ := c.def_ 12 (d := d_L_cell) rfl
  obtain ⟨fd_L_drawn, F_L_drawn⟩ := c.def_ 13 (d := d_L_drawn) rfl
  obtain ⟨fd_L_word, F_L_word⟩ := c.def_ 14 (d := d_L_word) rfl
  obtain ⟨fd_L_told, F_L_told⟩ := c.def_ 15 (d := d_L_told) rfl
  obtain ⟨fd_L_made, F_L_made⟩ := c.def_ 16 (d := d_L_made) rfl
  obtain ⟨fd_L_less, F_L_less⟩ := c.def_ 17 (d := d_L_less) rfl
  obtain ⟨fd_L_web, F_L_web⟩ := c.def_ 18 (d := d_L_web) rfl
  obtain ⟨fd_L_lists, F_L_lists⟩ := c.def_ 19 (d := d_L_lists) rfl
  obtain ⟨fd_L_bad, F_L_bad⟩ := c.def_ 20 (d := d_L_bad) rfl
  obtain ⟨fd_L_choices, F_L_choices⟩ := c.def_ 21 (d := d_L_choices) rfl
  obtain ⟨fd_L_is_so, F_L_is_so⟩ := c.def_ 22 (d := d_L_is_so) rfl
  obtain ⟨fd_law, F_law⟩ := c.def_ 23 (d := d_law) rfl
  have g_fraction : mg "fraction" = some (.ref (He.ga K "fraction")) := He.glo_ok X G0 (c.fact 0 (f := .glo "fraction") rfl)
  have g_need_test : mg "need_test" = some (.ref (He.ga K "need_test")) := He.glo_ok X G0 (c.fact 1 (f := .glo "need_test") rfl)
  have g_all_looks : mg "all_looks" = some (.ref (He.ga K "all_looks")) := He.glo_ok X G0 (c.fact 2 (f := .glo "all_looks") rfl)
  have g_is_node : mg "is_node" = some (.ref (He.ga K "is_node")) := He.glo_ok X G0 (c.fact 3 (f := .glo "is_node") rfl)
  have g_is_line : mg "is_line" = some (.ref (He.ga K "is_line")) := He.glo_ok X G0 (c.fact 4 (f := .glo "is_line") rfl)
  have g_need_web : mg "need_web" = some (.ref (He.ga K "need_web")) := He.glo_ok X G0 (c.fact 5 (f := .glo "need_web") rfl)
  have g_all_halves : mg "all_halves" = some (.ref (He.ga K "all_halves")) := He.glo_ok X G0 (c.fact 6 (f := .glo "all_halves") rfl)
  have g_bad_lines : mg "bad_lines" = some (.ref (He.ga K "bad_lines")) := He.glo_ok X G0 (c.fact 7 (f := .glo "bad_lines") rfl)
  have g_halves_of : mg "halves_of" = some (.ref (He.ga K "halves_of")) := He.glo_ok X G0 (c.fact 8 (f := .glo "halves_of") rfl)
  have g_far_halves : mg "far_halves" = some (.ref (He.ga K "far_halves")) := He.glo_ok X G0 (c.fact 9 (f := .glo "far_halves") rfl)
  have g_are_so : mg "are_so" = some (.ref (He.ga K "are_so")) := He.glo_ok X G0 (c.fact 10 (f := .glo "are_so") rfl)
  have g_by_nodes : mg "by_nodes" = some (.ref (He.ga K "by_nodes")) := He.glo_ok X G0 (c.fact 11 (f := .glo "by_nodes") rfl)
  have g_L_cell : mg "_law_cell" = some (.ref (He.ga K "_law_cell")) := He.glo_ok X G0 (c.fact 12 (f := .glo "_law_cell") rfl)
  have g_L_drawn : mg "_law_drawn" = some (.ref (He.ga K "_law_drawn")) := He.glo_ok X G0 (c.fact 13 (f := .glo "_law_drawn") rfl)
  have g_L_word : mg "_law_word" = some (.ref (He.ga K "_law_word")) := He.glo_ok X G0 (c.fact 14 (f := .glo "_law_word") rfl)
  have g_L_told : mg "_law_told" = some (.ref (He.ga K "_law_told")) := He.glo_ok X G0 (c.fact 15 (f := .glo "_law_told") rfl)
  have g_L_made : mg "_law_made" = some (.ref (He.ga K "_law_made")) := He.glo_ok X G0 (c.fact 16 (f := .glo "_law_made") rfl)
  have g_L_less : mg "_law_less" = some (.ref (He.ga K "_law_less")) := He.glo_ok X G0 (c.fact 17 (f := .glo "_law_less") rfl)
  have g_L_web : mg "_law_web" = some (.ref (He.ga K "_law_web")) := He.glo_ok X G0 (c.fact 18 (f := .glo "_law_web") rfl)
  have g_L_lists : mg "_law_lists" = some (.ref (He.ga K "_law_lists")) := He.glo_ok X G0 (c.fact 19 (f := .glo "_law_lists") rfl)
  have g_L_bad : mg "_law_bad" = some (.ref (He.ga K "_law_bad")) := He.glo_ok X G0 (c.fact 20 (f := .glo "_law_bad") rfl)
  have g_L_choices : mg "_law_choices" = some (.ref (He.ga K "_law_choices")) := He.glo_ok X G0 (c.fact 21 (f := .glo "_law_choices") rfl)
  have g_L_is_so : mg "_law_is_so" = some (.ref (He.ga K "_law_is_so")) := He.glo_ok X G0 (c.fact 22 (f := .glo "_law_is_so") rfl)
  have g_law : mg "law" = some (.ref (He.ga K "law")) := He.glo_ok X G0 (c.fact 23 (f := .glo "law") rfl)
  have g_LookError : mg "LookError" = some (.ref (He.ga K "LookError")) := He.glo_ok X G0 (c.fact 24 (f := .glo "LookError") rfl)
  have g_BadKind : mg "BadKind" = some (.ref (He.ga K "BadKind")) := He.glo_ok X G0 (c.fact 25 (f := .glo "BadKind") rfl)
  have g_BadWord : mg "BadWord" = some (.ref (He.ga K "BadWord")) := He.glo_ok X G0 (c.fact 26 (f := .glo "BadWord") rfl)
  have g_BadTest : mg "BadTest" = some (.ref (He.ga K "BadTest")) := He.glo_ok X G0 (c.fact 27 (f := .glo "BadTest") rfl)
  have g_BadRow : mg "BadRow" = some (.ref (He.ga K "BadRow")) := He.glo_ok X G0 (c.fact 28 (f := .glo "BadRow") rfl)
  have g_BadTable : mg "BadTable" = some (.ref (He.ga K "BadTable")) := He.glo_ok X G0 (c.fact 29 (f := .glo "BadTable") rfl)
  have g_BadWeb : mg "BadWeb" = some (.ref (He.ga K "BadWeb")) := He.glo_ok X G0 (c.fact 30 (f := .glo "BadWeb") rfl)
  have g_NoFar : mg "NoFar" = some (.ref (He.ga K "NoFar")) := He.glo_ok X G0 (c.fact 31 (f := .glo "NoFar") rfl)
  have G : Gm K mg := { ValueError := He.free_ok X G0 (c.fact 46 (f := .free "ValueError") rfl), abs := He.free_ok X G0 (c.fact 47 (f := .free "abs") rfl), all := He.free_ok X G0 (c.fact 48 (f := .free "all") rfl), any := He.free_ok X G0 (c.fact 49 (f := .free "any") rfl), bool := He.free_ok X G0 (c.fact 50 (f := .free "bool") rfl), enumerate := He.free_ok X G0 (c.fact 51 (f := .free "enumerate") rfl), int := He.free_ok X G0 (c.fact 52 (f := .free "int") rfl), isinstance := He.free_ok X G0 (c.fact 53 (f := .free "isinstance") rfl), len := He.free_ok X G0 (c.fact 54 (f := .free "len") rfl), list := He.free_ok X G0 (c.fact 55 (f := .free "list") rfl), max := He.free_ok X G0 (c.fact 56 (f := .free "max") rfl), min := He.free_ok X G0 (c.fact 57 (f := .free "min") rfl), range := He.free_ok X G0 (c.fact 58 (f := .free "range") rfl), sorted := He.free_ok X G0 (c.fact 59 (f := .free "sorted") rfl), sum := He.free_ok X G0 (c.fact 60 (f := .free "sum") rfl), tuple := He.free_ok X G0 (c.fact 61 (f := .free "tuple") rfl), zip := He.free_ok X G0 (c.fact 62 (f := .free "zip") rfl), c_MOST_NODES := He.int_ok X G0 (c.fact 63 (f := .int "MOST_NODES" 10) rfl), x_BadKind := exc_I g_BadKind (c.fact 32 (f := .exc "BadKind") rfl), x_BadWord := exc_I g_BadWord (c.fact 33 (f := .exc "BadWord") rfl), x_BadTest := exc_I g_BadTest (c.fact 34 (f := .exc "BadTest") rfl), x_BadRow := exc_I g_BadRow (c.fact 35 (f := .exc "BadRow") rfl), x_BadTable := exc_I g_BadTable (c.fact 36 (f := .exc "BadTable") rfl), x_BadWeb := exc_I g_BadWeb (c.fact 37 (f := .exc "BadWeb") rfl), x_NoFar := exc_I g_NoFar (c.fact 38 (f := .exc "NoFar") rfl) }
  have hgx : ∀ c ∈ ns, mg c = some (.ref (He.ga K c)) := by
    intro c hc
    simp only [ns, List.mem_cons, List.not_mem_nil, or_false] at hc
    rcases hc with rfl | rfl | rfl | rfl | rfl | rfl | rfl
    · exact g_BadKind
    · exact g_BadWord
    · exact g_BadTest
    · exact g_BadRow
    · exact g_BadTable
    · exact g_BadWeb
    · exact g_NoFar
  have WK := wordB_ok (mg := mg) cx hgx
  have hexm : ∀ c ∈ ns, ∀ C, mg c = some (.ref C) → PySem.W.exmOne K (.ref C) (.ref (He.ga K "LookError")) = some true := by
    intro c hc C hC
    have e := hgx c hc
    rw [hC] at e
    cases e
    simp only [ns, List.mem_cons, List.not_mem_nil, or_false] at hc
    rcases hc with rfl | rfl | rfl | rfl | rfl | rfl | rfl
    · exact He.exm_ok (c.fact 39 (f := .exm "BadKind" "LookError" true) rfl)
    · exact He.exm_ok (c.fact 40 (f := .exm "BadWord" "LookError" true) rfl)
    · exact He.exm_ok (c.fact 41 (f := .exm "BadTest" "LookError" true) rfl)
    · exact He.exm_ok (c.fact 42 (f := .exm "BadRow" "LookError" true) rfl)
    · exact He.exm_ok (c.fact 43 (f := .exm "BadTable" "LookError" true) rfl)
    · exact He.exm_ok (c.fact 44 (f := .exm "BadWeb" "LookError" true) rfl)
    · exact He.exm_ok (c.fact 45 (f := .exm "NoFar" "LookError" true) rfl)
  have TD : Told P w K mg base (Tb K) ns "LookError" "_law_told" "_law_word" "deed" "e" 0 := td G g_BadKind g_BadWord g_BadTest g_BadRow g_BadTable g_BadWeb g_NoFar WK g_LookError hexm F_L_told g_L_told F_L_word g_L_word
  have LI_law : LamI K mg base (Tb K) "law" := ⟨(He.cT K ("law", none)).2, TB (He.cT K ("law", none)) (by simp [tf]), by simp [Tb], fun p hp _ => by
      have e := List.mem_singleton.mp hp
      rw [e]⟩
  have K_fraction := k_fraction (P := P) (w := w) (base := base) (T := Tb K) G F_fraction g_fraction
  have K_need_test := k_need_test (P := P) (w := w) (base := base) (T := Tb K) G F_need_test g_need_test
  have K_all_looks := k_all_looks (P := P) (w := w) (base := base) (T := Tb K) G F_all_looks g_all_looks
  have K_is_node := k_is_node (P := P) (w := w) (base := base) (T := Tb K) G F_is_node g_is_node
  have K_all_halves := k_all_halves (P := P) (w := w) (base := base) (T := Tb K) G F_all_halves g_all_halves
  have K_bad_lines := k_bad_lines (P := P) (w := w) (base := base) (T := Tb K) G F_bad_lines g_bad_lines
  have K_are_so := k_are_so (P := P) (w := w) (base := base) (T := Tb K) G F_are_so g_are_so
  have K_L_cell := k_L_cell (P := P) (w := w) (base := base) (T := Tb K) G F_L_cell g_L_cell
  have K_L_drawn := k_L_drawn (P := P) (w := w) (base := base) (T := Tb K) G F_L_drawn g_L_drawn
  have K_L_made := k_L_made (P := P) (w := w) (base := base) (T := Tb K) G F_L_made g_L_made
  have K_L_less := k_L_less (P := P) (w := w) (base := base) (T := Tb K) G F_L_less g_L_less
  have K_L_lists := k_L_lists (P := P) (w := w) (base := base) (T := Tb K) G F_L_lists g_L_lists
  have K_L_bad := k_L_bad (P := P) (w := w) (base := base) (T := Tb K) G F_L_bad g_L_bad
  have K_L_choices := k_L_choices (P := P) (w := w) (base := base) (T := Tb K) G F_L_choices g_L_choices
  have K_is_line := k_is_line (P := P) (w := w) (base := base) (T := Tb K) G K_is_node F_is_line g_is_line
  have K_L_web := k_L_web (P := P) (w := w) (base := base) (T := Tb K) G K_L_drawn F_L_web g_L_web
  have K_L_is_so := k_L_is_so (P := P) (w := w) (base := base) (T := Tb K) G K_L_lists F_L_is_so g_L_is_so
  have K_need_web := k_need_web (P := P) (w := w) (base := base) (T := Tb K) G K_is_line F_need_web g_need_web
  have K_halves_of := k_halves_of (P := P) (w := w) (base := base) (T := Tb K) G K_need_web K_all_halves K_bad_lines F_halves_of g_halves_of
  have K_by_nodes := k_by_nodes (P := P) (w := w) (base := base) (T := Tb K) G K_fraction K_need_test K_all_looks K_need_web K_are_so F_by_nodes g_by_nodes
  have K_far_halves := k_far_halves (P := P) (w := w) (base := base) (T := Tb K) G K_bad_lines K_halves_of F_far_halves g_far_halves
  have K_law := k_law (P := P) (w := w) (base := base) (T := Tb K) G TD LI_law K_halves_of K_far_halves K_by_nodes K_L_cell K_L_drawn K_L_made K_L_less K_L_web K_L_lists K_L_bad K_L_choices K_L_is_so g_far_halves g_halves_of FL0
  exact K_law
end K70
open PySem PySem.W PySem.Calls PyProof.Rows
set_option maxRecDepth 100000 in
set_option maxHeartbeats 0 in
theorem PySem.Challenge.cw_fewlooks_k70_whole_halves_holds : PySem.Challenge.rw_fewlooks_k70_whole_halves.Holds := by
  w_on; o_law
  refine HandSHeadRun.head_any (r := OpenLaw.row PySem.Challenge.rw_fewlooks_k70_whole_halves) (q := view (OpenLaw.row PySem.Challenge.rw_fewlooks_k70_whole_halves).prog [38]) (H := K70.hk) (ob := K70.ob) (M := 4000) (loose := K70.loose) (d := HandSHeadRun.topDef (OpenLaw.row PySem.Challenge.rw_fewlooks_k70_whole_halves).prog 38) (kwd := []) K70.ob_eq
    (by kernel_rfl) (fun s => by kernel_rfl) K70.run (by kernel_rfl) (by kernel_rfl) (by kernel_rfl) (by rfl) (by first | assumption | decide +kernel) (by decide +kernel) ⟨rfl, rfl, rfl, rfl, rfl, by decide +kernel⟩ ?hw ?hc
  case hw => w_witness2
  case hc =>
    refine LamX.walk_ofTsE (l := PySem.Challenge.rw_fewlooks_k70_whole_halves) (n := 63) (k := 8) (x := "script") (CX := fun w => L2N.CX (PySem.Challenge.rw_fewlooks_k70_whole_halves).prog w) rfl (by decide) (by kernel_rfl) ⟨rfl, by decide, by decide⟩ ?F (fun _ _ _ _ _ z => FL.cx_false z)
    intro w mg fa h Y G hmg0
    obtain ⟨K, KX, c⟩ := Y
    have hmg : mg ("law" : PySem.Str) = some (.ref fa) := by
      have e : (HandSHeadRun.topDef (OpenLaw.row PySem.Challenge.rw_fewlooks_k70_whole_halves).prog 38).name = ("law" : PySem.Str) := by kernel_rfl
      rw [← e]
      exact hmg0
    obtain ⟨fdL, FL0⟩ := c.t.d.def_ 23 (d := K70.d_law) rfl
    have bnd := FL0.bindsA (ps := ["script"]) fun _ _ _ _ _ _ us hl => match us, hl with | [_], _ => rfl
    refine ⟨K, KX, fdL, K70.tf.map (He.cT K), FL.spOf K mg (K70.Tb K) 1 K70.m_law, ?_, ?_, ?_, fun s u => bnd s [u] rfl, ?_, ?_⟩
    · intro p hp
      obtain ⟨q, hq, rfl⟩ := List.mem_map.mp hp
      exact c.empty q hq
    · intro p hp
      obtain ⟨q, hq, rfl⟩ := List.mem_map.mp hp
      exact c.out q hq
    · intro p hp
      obtain ⟨q, hq, rfl⟩ := List.mem_map.mp hp
      exact PySem.W.codeHd_of_K KX (c.hd q hq)
    · intro H a ns hl hb hT hS
      refine FL.law_sp (k := 0) (fun p hp => ?_) hS (K70.law_true ns hl)
      simp only [K70.Tb, List.mem_cons, List.not_mem_nil, or_false] at hp
      rcases hp with rfl
      · exact LamX.TabS.nil (hT (He.cT K ("law", none)) (by simp [K70.tf]))
    · intro base KB GB TB
      have ga0 := He.glo_ok KX G (c.t.d.fact 23 (f := .glo "law") rfl)
      have e := hmg.symm.trans ga0
      cases e
      exact K70.facts (P := (PySem.Challenge.rw_fewlooks_k70_whole_halves).prog) (w := w) KX G c.t.d c.more (base := base) TB FL0
