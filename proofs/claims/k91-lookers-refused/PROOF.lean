import PyProof.Rows.All
import Wide.All
import OpenK.AllK
import Wide.FinOn
import HandS.ForMost
import HandS.ForExc
import HandS.Walk
import HandS.Lambda
import HandS.Zip
import KE.KDictKeyed
import KE.KDictPairs
import KE.KDictCopyH
import HandS.Defaults
import HandS.ExcCtx
import HandS.HotCalls
import HandS.ExcIs
import HandS.IsInst
import HandS.Wide
import HandS.TupAny
import HandS.TupMul
import HandS.TupLe
import HandS.Deep
import HandS.Style
import HandS.SortInts
import KE.DatumOrd
import HandS.SortKw
import HandS.Head0
import HandS.Head1
import HandS.Head2
import HandS.HeadEnd
import HandS.HeadHook1
import HandS.HeadHook2
import HandS.HeadHook3
import HandS.HeadHook4
import HandS.HeadWalk
import HandS.Conv
import HandS.CallLocal
import HandS.SetFor
import KE.KTupSum
import HandS.Strs
import HandS.TupSets
import HandS.Sort
import KE.KTupTabMore
import KE.KAssignIn
import KE.GoesMore
import PyProof.EnumMake
import PyProof.Draws
import HandS.Iter
import KE.DataMinMax
import PySem.Challenge.RW_fewlooks_k91_lookers_refused
set_option Elab.async false
set_option linter.all false
set_option maxRecDepth 100000
set_option maxHeartbeats 2000000
/-! plain part: rows of letters and None; what is told of them; dicts whose keys are such rows -/
namespace FL
open PySem PySem.Spec PyProof.Rows L2 LamX
abbrev Part := List (Option Int)
def mtc : Part → List Int → Bool
  | [], [] => true
  | none :: p, _ :: w => mtc p w
  | some a :: p, x :: w => decide (a = x) && mtc p w
  | _, _ => false
/-- how many words that are so have what is known -/
def cntP (ws : List (List Int)) (p : Part) : Nat := (ws.filter (mtc p)).length
def nones : Part → Nat
  | [] => 0
  | none :: p => nones p + 1
  | some _ :: p => nones p
def allP (L : Nat) (p : Part) : Nat := L ^ nones p
/-- whether it is decided -/
def verP (L : Nat) (ws : List (List Int)) (p : Part) : Option Bool := if cntP ws p = 0 then some false else if cntP ws p = allP L p then some true else none
def setP (p : Part) (i : Nat) (x : Int) : Part := p.set i (some x)
def places (p : Part) : List Nat := (List.range p.length).filter fun i => (p.getD i (some 0)).isNone
def maxN : List Nat → Nat
  | [] => 0
  | x :: xs => max x (maxN xs)
def minN : List Nat → Nat
  | [] => 0
  | [x] => x
  | x :: xs => min x (minN xs)
/-- how many looks more are needed at most; k: so many places at most are not known -/
def depF (L : Nat) (ws : List (List Int)) : Nat → Part → Nat
  | 0, _ => 0
  | k + 1, p => if verP L ws p = none then minN ((places p).map fun i => 1 + maxN ((List.range L).map fun x => depF L ws k (setP p i ((x : Nat) : Int)))) else 0
def depP (L : Nat) (ws : List (List Int)) (p : Part) : Nat := depF L ws (nones p) p
def okP (L n : Nat) (p : Part) : Bool := decide (p.length = n) && p.all fun x => match x with
  | none => true
  | some i => decide (0 ≤ i) && decide (i < (L : Int))
def allParts (L : Nat) : Nat → List Part
  | 0 => [[]]
  | n + 1 => (allParts L n).flatMap fun p => (none :: p) :: (List.range L).map fun x => some ((x : Nat) : Int) :: p
theorem okP_mem {L : Nat} : ∀ {n : Nat} {p : Part}, okP L n p = true → p ∈ allParts L n
  | 0, p, h => by
    unfold okP at h
    rw [Bool.and_eq_true, decide_eq_true_iff] at h
    rw [List.eq_nil_of_length_eq_zero h.1]
    exact List.mem_singleton.mpr rfl
  | n + 1, [], h => by
    unfold okP at h
    simp at h
  | n + 1, x :: p, h => by
    unfold okP at h
    rw [Bool.and_eq_true, decide_eq_true_iff, List.all_cons, Bool.and_eq_true] at h
    obtain ⟨h1, h2, h3⟩ := h
    have ih : p ∈ allParts L n := okP_mem (by
      unfold okP
      rw [Bool.and_eq_true, decide_eq_true_iff]
      exact ⟨by simpa using h1, h3⟩)
    unfold allParts
    rw [List.mem_flatMap]
    refine ⟨p, ih, ?_⟩
    cases x with
    | none => exact List.mem_cons_self
    | some i =>
      have h2 : (decide (0 ≤ i) && decide (i < (L : Int))) = true := h2
      rw [Bool.and_eq_true, decide_eq_true_iff, decide_eq_true_iff] at h2
      refine List.mem_cons_of_mem _ (List.mem_map.mpr ⟨i.toNat, List.mem_range.mpr (by omega), ?_⟩)
      rw [show ((i.toNat : Nat) : Int) = i by omega]
theorem allParts_len (L : Nat) : ∀ n, (allParts L n).length = (L + 1) ^ n
  | 0 => rfl
  | n + 1 => by
    unfold allParts
    have aux : ∀ l : List Part, (l.flatMap fun p => (none :: p) :: (List.range L).map fun x => some ((x : Nat) : Int) :: p).length = l.length * (L + 1) := fun l => by
      induction l with
      | nil => simp
      | cons a l ih =>
        rw [List.flatMap_cons, List.length_append, ih, List.length_cons, List.length_map, List.length_range, List.length_cons, Nat.succ_mul]
        omega
    rw [aux, allParts_len L n, Nat.pow_succ]
theorem nodup_le {α : Type} [DecidableEq α] : ∀ {l m : List α}, l.Nodup → (∀ x ∈ l, x ∈ m) → l.length ≤ m.length
  | [], m, _, _ => Nat.zero_le _
  | x :: l, m, hn, h => by
    rw [List.nodup_cons] at hn
    have ih := nodup_le (l := l) (m := m.erase x) hn.2 (fun y hy => by
      have hxy : y ≠ x := fun z => hn.1 (z ▸ hy)
      exact (List.mem_erase_of_ne hxy).mpr (h y (List.mem_cons_of_mem _ hy)))
    have hx := h x List.mem_cons_self
    rw [List.length_erase_of_mem hx] at ih
    have := List.length_pos_of_mem hx
    rw [List.length_cons]
    omega
def leafO : Option Int → Leaf
  | none => .none
  | some i => .num i
def leafV : Option Int → V
  | none => .non
  | some i => .int i
def keyL (p : Part) : List Leaf := p.map leafO
theorem leafO_inj : ∀ {a b : Option Int}, leafO a = leafO b → a = b
  | none, none, _ => rfl
  | some a, some b, h => by cases h; rfl
theorem keyL_inj : ∀ {p q : Part}, keyL p = keyL q → p = q
  | [], [], _ => rfl
  | a :: p, b :: q, h => by
    simp only [keyL, List.map_cons, List.cons.injEq] at h
    rw [leafO_inj h.1, keyL_inj (p := p) (q := q) h.2]
def hash1 : Option Int → Int
  | none => reduceHash 0xFCA86420
  | some i => hashInt i
def pHash (p : Part) : Int := reduceHash (Builtin.Tuple.tupleHashOf (p.map hash1))
theorem hash_keyL {P : Program} {w : World} : ∀ p : Part, (keyL p).map (leafKind P w).hash = p.map hash1
  | [] => rfl
  | none :: p => by
    have ih := hash_keyL (P := P) (w := w) p
    simp only [keyL, List.map_cons] at ih ⊢
    rw [ih]
    rfl
  | some i :: p => by
    have ih := hash_keyL (P := P) (w := w) p
    simp only [keyL, List.map_cons] at ih ⊢
    rw [ih]
    rfl
theorem entry_keyL {P : Program} {w : World} (x : Part × Addr × Value) : entryOfKey (tupleKind (leafKind P w)) (keyL x.1, x.2) = ⟨pHash x.1, .ref x.2.1, x.2.2⟩ := by
  show (⟨tupleKeyHash (leafKind P w) (keyL x.1), .ref x.2.1, x.2.2⟩ : DictEntry) = _
  unfold tupleKeyHash pHash
  rw [hash_keyL]
/-- a dict whose keys are tuples of whole numbers and None -/
def DicO (a : Addr) (xs : List (Part × Addr × Value)) : HO := .ext fun h => (a == sysModules) = false ∧ xs.length ≤ sizeLine ∧ ∃ o es ep, h.get? a = some o ∧ o.ExactDict ∧ o.data = .dict es ep ∧ es.toList = (xs.map fun x => (⟨pHash x.1, .ref x.2.1, x.2.2⟩ : DictEntry)) ∧ (xs.map (·.1)).Nodup
theorem entries_eq {P : Program} {w : World} (xs : List (Part × Addr × Value)) : (xs.map fun x => (keyL x.1, x.2)).map (entryOfKey (tupleKind (leafKind P w))) = xs.map fun x => (⟨pHash x.1, .ref x.2.1, x.2.2⟩ : DictEntry) := by
  rw [List.map_map]
  exact List.map_congr_left fun x _ => entry_keyL x
/-- a dict of words that stays as it is -/
def WdAt (K : PySem.W.Frag) (M : Hp) (a : Addr) (ws : List (List Int)) : Prop := ∃ o xs, M a = some (.frz o (DicO a xs)) ∧ xs.map (·.1) = ws.map (·.map some) ∧ ∀ x ∈ xs, SqT K M x.2.1 (x.1.map leafV)
/-- the tables of code objects, and what dicts with such keys want -/
structure Tb where
  tabs : List (Addr × Str)
  K : PySem.W.Frag
instance : Coe Tb (List (Addr × Str)) := ⟨Tb.tabs⟩
def Kept : HO → Prop
  | .tbl _ => False
  | .ext _ => False
  | _ => True
/-- the kind a plan is made of -/
structure KOk (L n : Nat) (ws : List (List Int)) : Prop where
  n1 : 1 ≤ n
  n6 : n ≤ 6
  l3 : L ≤ 3
  len : ∀ w ∈ ws, w.length = n
  few : ws.length * n ≤ 900
  lt : ∀ w ∈ ws, ∀ x ∈ w, 0 ≤ x ∧ x < (L : Int)
  nd : ws.Nodup
theorem flatten_inj {n : Nat} (hn : 1 ≤ n) : ∀ {as bs : List (List Int)}, (∀ w ∈ as, w.length = n) → (∀ w ∈ bs, w.length = n) → as.flatten = bs.flatten → as = bs
  | [], [], _, _, _ => rfl
  | [], b :: bs, _, hb, h => by
    have := hb b List.mem_cons_self
    rw [List.flatten_nil, List.flatten_cons] at h
    have h2 := congrArg List.length h
    rw [List.length_append, List.length_nil] at h2
    omega
  | a :: as, [], ha, _, h => by
    have := ha a List.mem_cons_self
    rw [List.flatten_nil, List.flatten_cons] at h
    have h2 := congrArg List.length h
    rw [List.length_append, List.length_nil] at h2
    omega
  | a :: as, b :: bs, ha, hb, h => by
    have h1 := ha a List.mem_cons_self
    have h2 := hb b List.mem_cons_self
    rw [List.flatten_cons, List.flatten_cons] at h
    obtain ⟨e1, e2⟩ := List.append_inj h (by omega)
    rw [e1, flatten_inj hn (fun w hw => ha w (List.mem_cons_of_mem _ hw)) (fun w hw => hb w (List.mem_cons_of_mem _ hw)) e2]
/-- the attributes of a plan; behind them, out of reach, its words -/
def pf (L n : Nat) (wd c d : Addr) (ws : List (List Int)) : List (Str × V) :=
  ([(("letters" : Str), V.int ((L : Nat) : Int)), ("long", V.int ((n : Nat) : Int)), ("words", V.ref wd), ("counts", V.ref c), ("depths", V.ref d)] : List (Str × V)) ++ ws.flatten.map fun x => (("letters" : Str), V.int x)
theorem map_int_inj : ∀ {as bs : List Int}, (as.map fun x => (("letters" : Str), V.int x)) = (bs.map fun x => (("letters" : Str), V.int x)) → as = bs
  | [], [], _ => rfl
  | a :: as, b :: bs, h => by
    simp only [List.map_cons, List.cons.injEq, Prod.mk.injEq, true_and] at h
    obtain ⟨h1, h2⟩ := h
    cases h1
    rw [map_int_inj h2]
theorem pf_inj {L n L' n' : Nat} {wd c d wd' c' d' : Addr} {ws ws' : List (List Int)} (k : KOk L n ws) (k' : KOk L' n' ws') (h : pf L n wd c d ws = pf L' n' wd' c' d' ws') : L = L' ∧ n = n' ∧ wd = wd' ∧ c = c' ∧ d = d' ∧ ws = ws' := by
  unfold pf at h
  simp only [List.cons_append, List.nil_append, List.cons.injEq, Prod.mk.injEq, true_and, V.int.injEq, V.ref.injEq] at h
  obtain ⟨h1, h2, h3, h4, h5, h6⟩ := h
  obtain rfl : L = L' := by omega
  obtain rfl : n = n' := by omega
  exact ⟨rfl, rfl, h3, h4, h5, flatten_inj k.n1 k.len k'.len (map_int_inj h6)⟩
/-! ### the invariant of plans -/
def MemoOk (T : Tb) (H : Hp) (L n : Nat) (c : Addr) (f : Part → Nat) : Prop := ∃ xs : List (Part × Addr × Value), H c = some (DicO c xs) ∧ ((xs.map (·.1)).Nodup ∧ ∀ x ∈ xs, okP L n x.1 = true) ∧ ∀ x ∈ xs, SqT T.K H x.2.1 (x.1.map leafV) ∧ ∃ tk, x.2.2 = .int ((f x.1 : Nat) : Int) tk
structure PlanAt (T : Tb) (H : Hp) (L n : Nat) (wd c d : Addr) (ws : List (List Int)) : Prop where
  co : MemoOk T H L n c (cntP ws)
  de : MemoOk T H L n d (depP L ws)
  cd : c ≠ d
structure PlanOk (T : Tb) (M H : Hp) : Prop where
  at_ : ∀ p C dx L n wd c d ws, M p = some (.ins C dx (pf L n wd c d ws)) → KOk L n ws → PlanAt T H L n wd c d ws
  dj : ∀ p C dx L n wd c d ws p' C' dx' L' n' wd' c' d' ws', M p = some (.ins C dx (pf L n wd c d ws)) → KOk L n ws → M p' = some (.ins C' dx' (pf L' n' wd' c' d' ws')) → KOk L' n' ws' → p ≠ p' → ∀ x ∈ [c, d], ∀ y ∈ [c', d'], x ≠ y
/-- b is a plan's memory -/
def MemoA (M : Hp) (b : Addr) : Prop := ∃ p C dx L n wd c d ws, M p = some (.ins C dx (pf L n wd c d ws)) ∧ KOk L n ws ∧ (b = c ∨ b = d)
/-- a tuple of whole numbers and None, known to have no dict -/
def RowAt (M : Hp) (a : Addr) (p : Part) : Prop := ∃ o, M a = some (.frz o (.tup (p.map leafV))) ∧ o.dict = none
def vI : Value → Int
  | .int k _ => k
  | _ => 0
/-- a dict from rows to whole numbers, that stays -/
def MapAt (K : PySem.W.Frag) (M : Hp) (a : Addr) (kvs : List (Part × Int)) : Prop := ∃ o xs, M a = some (.frz o (DicO a xs)) ∧ (xs.map fun x => (x.1, vI x.2.2)) = kvs ∧ ∀ x ∈ xs, SqT K M x.2.1 (x.1.map leafV) ∧ ∃ k tk, x.2.2 = .int k tk
/-- a dict from whole numbers to whole numbers, that stays -/
def ImpAt (M : Hp) (a : Addr) (kvs : List (Int × Int)) : Prop := ∃ o, M a = some (.frz o (.dK (kvs.map fun x => (.inl x.1, .int x.2))))
variable {T : Tb} {M M' H H' : Hp}
theorem MemoOk.of {L n : Nat} {c : Addr} {f : Part → Nat} (kt : ∀ b xs, SqT T.K H b xs → SqT T.K H' b xs) (ke : ∀ b φ, H b = some (.ext φ) → H' b = some (.ext φ)) (h : MemoOk T H L n c f) : MemoOk T H' L n c f := by
  obtain ⟨xs, h1, h0, h2⟩ := h
  exact ⟨xs, ke _ _ h1, h0, fun x hx => ⟨kt _ _ (h2 x hx).1, (h2 x hx).2⟩⟩
theorem PlanOk.of (kt : ∀ b xs, SqT T.K H b xs → SqT T.K H' b xs) (ke : ∀ b φ, H b = some (.ext φ) → H' b = some (.ext φ)) (h : PlanOk T M H) : PlanOk T M H' where
  at_ := fun p C dx L n wd c d ws hm hk => by
    have := h.at_ p C dx L n wd c d ws hm hk
    exact ⟨this.co.of kt ke, this.de.of kt ke, this.cd⟩
  dj := h.dj
theorem PlanOk.monoM (hm : ∀ p C dx fs, M' p = some (.ins C dx fs) → M p = some (.ins C dx fs)) (h : PlanOk T M H) : PlanOk T M' H where
  at_ := fun p C dx L n wd c d ws h1 hk => h.at_ p C dx L n wd c d ws (hm _ _ _ _ h1) hk
  dj := fun p C dx L n wd c d ws p' C' dx' L' n' wd' c' d' ws' h1 k1 h2 k2 => h.dj p C dx L n wd c d ws p' C' dx' L' n' wd' c' d' ws' (hm _ _ _ _ h1) k1 (hm _ _ _ _ h2) k2
theorem MemoA.of {b : Addr} (hm : ∀ p C dx fs, M' p = some (.ins C dx fs) → M p = some (.ins C dx fs)) (h : MemoA M' b) : MemoA M b := by
  obtain ⟨p, C, dx, L, n, wd, c, d, ws, h1, h2, h3⟩ := h
  exact ⟨p, C, dx, L, n, wd, c, d, ws, hm _ _ _ _ h1, h2, h3⟩
theorem MemoA.mono {b : Addr} (e : Same M M') (h : MemoA M b) : MemoA M' b := by
  obtain ⟨p, C, dx, L, n, wd, c, d, ws, h1, h2, h3⟩ := h
  exact ⟨p, C, dx, L, n, wd, c, d, ws, e _ _ h1, h2, h3⟩
theorem RowAt.mono {a : Addr} {p : Part} (e : Same M M') (h : RowAt M a p) : RowAt M' a p := by
  obtain ⟨o, h1, h2⟩ := h
  exact ⟨o, e _ _ h1, h2⟩
theorem ImpAt.mono {a : Addr} {kvs : List (Int × Int)} (e : Same M M') (h : ImpAt M a kvs) : ImpAt M' a kvs := by
  obtain ⟨o, h1⟩ := h
  exact ⟨o, e _ _ h1⟩
theorem MapAt.mono {K : PySem.W.Frag} {a : Addr} {kvs : List (Part × Int)} (e : Same M M') (h : MapAt K M a kvs) : MapAt K M' a kvs := by
  obtain ⟨o, xs, h1, h2, h3⟩ := h
  refine ⟨o, xs, e _ _ h1, h2, fun x hx => ⟨?_, (h3 x hx).2⟩⟩
  rcases (h3 x hx).1 with (q | ⟨o, q⟩) | q
  · exact .inl (.inl (e _ _ q))
  · exact .inl (.inr ⟨o, e _ _ q⟩)
  · exact .inr q
theorem WdAt.mono {K : PySem.W.Frag} {a : Addr} {ws : List (List Int)} (e : Same M M') (h : WdAt K M a ws) : WdAt K M' a ws := by
  obtain ⟨o, xs, h1, h2, h3⟩ := h
  refine ⟨o, xs, e _ _ h1, h2, fun x hx => ?_⟩
  rcases h3 x hx with (q | ⟨o, q⟩) | q
  · exact .inl (.inl (e _ _ q))
  · exact .inl (.inr ⟨o, e _ _ q⟩)
  · exact .inr q
theorem PlanOk.same (e : Same H H') (h : PlanOk T M H) : PlanOk T M H' := h.of (fun b xs q => by
  rcases q with (q | ⟨o, q⟩) | q
  · exact .inl (.inl (e _ _ q))
  · exact .inl (.inr ⟨o, e _ _ q⟩)
  · exact .inr q) fun b φ q => e _ _ q
theorem PlanOk.emp : PlanOk T (fun _ => none) H where
  at_ := fun _ _ _ _ _ _ _ _ _ h => (by cases h)
  dj := fun _ _ _ _ _ _ _ _ _ _ _ _ _ _ _ _ _ _ h => (by cases h)
/-- where only one object, no tuple and no such dict, is changed -/
theorem PlanOk.upd1 {a : Addr} {o o' : HO} (ha : H a = some o) (h1 : ∀ xs, o ≠ .tup xs) (h2 : ∀ u v, o ≠ .frz u v) (h3 : ∀ φ, o ≠ .ext φ) (h : PlanOk T M H) : PlanOk T M (upd H a o') := h.of (fun b xs q => by
  rcases q with (q | ⟨u, q⟩) | q
  · exact .inl (.inl (by rw [upd_ne (ne_of q ha (fun z => h1 _ z.symm))]; exact q))
  · exact .inl (.inr ⟨u, by rw [upd_ne (ne_of q ha (fun z => h2 _ _ z.symm))]; exact q⟩)
  · exact .inr q) fun b φ q => by rw [upd_ne (ne_of q ha (fun z => h3 _ z.symm))]; exact q
end FL
set_option Elab.async false
set_option linter.all false
set_option maxRecDepth 100000
set_option maxHeartbeats 2000000
/-! FL: a layer of values over HandS. D: data; Rp: a value stands for data in the part M of the heap that nobody changes. -/
namespace FL
open PySem PySem.Spec PyProof.Rows L2 LamX

inductive D where
  | non | bl (b : Bool) | int (i : Int) | str (x : Str) | lst (xs : List D) | tup (xs : List D) | fn (x : Str) | ty (n : String) | scr (ns : List Int) | opq (a : Addr) | pln (L n : Nat) (ws : List (List Int)) | wds (ws : List (List Int)) | row (p : Part) | dmp (kvs : List (Part × Int)) | imp (kvs : List (Int × Int))

inductive Out (α : Type) where
  | ok (a : α) | exc (c : Str) | bad
def Out.bind {α β : Type} (o : Out α) (f : α → Out β) : Out β := match o with
  | .ok a => f a
  | .exc c => .exc c
  | .bad => .bad

section
variable (K : PySem.W.Frag) (mg : Str → Option Value) (M : Hp)
mutual
inductive Rp : V → D → Prop
  | non : Rp .non .non
  | bl (b : Bool) : Rp (.bl b) (.bl b)
  | int (i : Int) : Rp (.int i) (.int i)
  | str (x : Str) : Rp (.str x) (.str x)
  | lst {a : Addr} {vs : List V} {ds : List D} : M a = some (.lst vs) → RpL vs ds → Rp (.ref a) (.lst ds)
  | tup {a : Addr} {vs : List V} {ds : List D} : SqT K M a vs → RpL vs ds → Rp (.ref a) (.tup ds)
  | fn {x : Str} {f : Addr} : mg x = some (.ref f) → Rp (.ref f) (.fn x)
  | ty (n : String) : Rp (.ty n) (.ty n)
  | scr {a : Addr} {ns : List Int} : SqL K M a (ns.map V.int) → Rp (.ref a) (.scr ns)
  | opq (a : Addr) : Rp (.ref a) (.opq a)
  | pln {p C dx wd c d : Addr} {L n : Nat} {ws : List (List Int)} : mg "Plan" = some (.ref C) → M p = some (.ins C dx (pf L n wd c d ws)) → KOk L n ws → WdAt K M wd ws → Rp (.ref p) (.pln L n ws)
  | wds {a : Addr} {ws : List (List Int)} : WdAt K M a ws → Rp (.ref a) (.wds ws)
  | row {a : Addr} {p : Part} : RowAt M a p → Rp (.ref a) (.row p)
  | dmp {a : Addr} {kvs : List (Part × Int)} : MapAt K M a kvs → Rp (.ref a) (.dmp kvs)
  | imp {a : Addr} {kvs : List (Int × Int)} : ImpAt M a kvs → Rp (.ref a) (.imp kvs)
inductive RpL : List V → List D → Prop
  | nil : RpL [] []
  | cons {v : V} {vs : List V} {d : D} {ds : List D} : Rp v d → RpL vs ds → RpL (v :: vs) (d :: ds)
end
end

variable {K : PySem.W.Frag} {mg : Str → Option Value} {T : Tb} {H0 M M' M1 M2 H H' H1 H2 : Hp}

theorem same_sqT {a : Addr} {xs : List V} (e : Same M M') (h : SqT K M a xs) : SqT K M' a xs := by
  rcases h with (h | ⟨o, h⟩) | h
  · exact .inl (.inl (e _ _ h))
  · exact .inl (.inr ⟨o, e _ _ h⟩)
  · exact .inr h
mutual
theorem Rp.mono (e : Same M M') : ∀ {v : V} {d : D}, Rp K mg M v d → Rp K mg M' v d
  | _, _, .non => .non
  | _, _, .bl b => .bl b
  | _, _, .int i => .int i
  | _, _, .str x => .str x
  | _, _, .lst h r => .lst (e _ _ h) (RpL.mono e r)
  | _, _, .tup h r => .tup (same_sqT e h) (RpL.mono e r)
  | _, _, .fn h => .fn h
  | _, _, .ty n => .ty n
  | _, _, .scr h => .scr (e.seq h)
  | _, _, .opq a => .opq a
  | _, _, .pln a b c d => .pln a (e _ _ b) c (d.mono e)
  | _, _, .wds a => .wds (a.mono e)
  | _, _, .row a => .row (a.mono e)
  | _, _, .dmp a => .dmp (a.mono e)
  | _, _, .imp a => .imp (a.mono e)
theorem RpL.mono (e : Same M M') : ∀ {vs : List V} {ds : List D}, RpL K mg M vs ds → RpL K mg M' vs ds
  | _, _, .nil => .nil
  | _, _, .cons h r => .cons (Rp.mono e h) (RpL.mono e r)
end
theorem RpL.length : ∀ {vs : List V} {ds : List D}, RpL K mg M vs ds → vs.length = ds.length
  | _, _, .nil => rfl
  | _, _, .cons _ r => by simp [RpL.length r]
theorem RpL.append : ∀ {vs ws : List V} {ds es : List D}, RpL K mg M vs ds → RpL K mg M ws es → RpL K mg M (vs ++ ws) (ds ++ es)
  | _, _, _, _, .nil, s => s
  | _, _, _, _, .cons h r, s => .cons h (RpL.append r s)
theorem RpL.get : ∀ {vs : List V} {ds : List D} {i : Nat} {d : D}, RpL K mg M vs ds → ds[i]? = some d → ∃ v, vs[i]? = some v ∧ Rp K mg M v d
  | _, _, _, _, .nil, e => by simp at e
  | _, _, 0, _, .cons h _, e => by simp at e; subst e; exact ⟨_, rfl, h⟩
  | _, _, i + 1, d, .cons _ r, e => by
    obtain ⟨u, h1, h2⟩ := RpL.get (i := i) (d := d) r (by simpa using e)
    exact ⟨u, by simpa using h1, h2⟩
theorem RpL.get' : ∀ {vs : List V} {ds : List D} {i : Nat} {v : V}, RpL K mg M vs ds → vs[i]? = some v → ∃ d, ds[i]? = some d ∧ Rp K mg M v d
  | _, _, _, _, .nil, e => by simp at e
  | _, _, 0, _, .cons h _, e => by simp at e; subst e; exact ⟨_, rfl, h⟩
  | _, _, i + 1, d, .cons _ r, e => by
    obtain ⟨u, h1, h2⟩ := RpL.get' (i := i) (v := d) r (by simpa using e)
    exact ⟨u, by simpa using h1, h2⟩
theorem RpL.take : ∀ {vs : List V} {ds : List D} (n : Nat), RpL K mg M vs ds → RpL K mg M (vs.take n) (ds.take n)
  | _, _, 0, _ => by simpa using RpL.nil
  | _, _, _ + 1, .nil => .nil
  | _, _, n + 1, .cons h r => .cons h (RpL.take n r)
theorem RpL.drop : ∀ {vs : List V} {ds : List D} (n : Nat), RpL K mg M vs ds → RpL K mg M (vs.drop n) (ds.drop n)
  | _, _, 0, r => r
  | _, _, _ + 1, .nil => .nil
  | _, _, n + 1, .cons _ r => RpL.drop n r
theorem RpL.set {v : V} {d : D} (h : Rp K mg M v d) : ∀ {vs : List V} {ds : List D} (i : Nat), RpL K mg M vs ds → RpL K mg M (vs.set i v) (ds.set i d)
  | _, _, _, .nil => .nil
  | _, _, 0, .cons _ r => .cons h r
  | _, _, i + 1, .cons q r => .cons q (RpL.set h i r)
theorem RpL.reverse : ∀ {vs : List V} {ds : List D}, RpL K mg M vs ds → RpL K mg M vs.reverse ds.reverse
  | _, _, .nil => .nil
  | _, _, .cons h r => by
    simp only [List.reverse_cons]
    exact RpL.append (RpL.reverse r) (.cons h .nil)

/-! ### what may change: nothing but new things, tables of code objects; M' is M and new things -/
structure NoT (T : Tb) (M H : Hp) : Prop where
  kd : ∀ a o, M a = some o → Kept o
  pl : PlanOk T M H
structure Ext (T : Tb) (M H M' H' : Hp) : Prop where
  kp : ∀ b o, H b = some o → Kept o → H' b = some o
  ke : ∀ b φ, H b = some (.ext φ) → H' b = some (.ext φ) ∨ (MemoA M b ∧ ∃ φ', H' b = some (.ext φ'))
  tb : Tabs T H → Tabs T H'
  mm : Same M M'
  ms : Same M' H'
  nt : NoT T M' H'
  nw : ∀ a o, M' a = some o → M a = some o ∨ ∀ u, H a = some u → ∃ ps, u = .tbl ps
  nm : ∀ b, MemoA M' b → MemoA M b ∨ ∀ φ, H b ≠ some (.ext φ)
theorem Ext.ke' (e : Ext T M H M' H') (b : Addr) (φ : Heap → Prop) (h : H b = some (.ext φ)) : ∃ φ', H' b = some (.ext φ') := by
  rcases e.ke b φ h with q | ⟨_, q⟩
  · exact ⟨φ, q⟩
  · exact q
theorem kinds (o : HO) : Kept o ∨ (∃ φ, o = .ext φ) ∨ ∃ ps, o = .tbl ps := by
  cases o <;> first | exact .inl True.intro | exact .inr (.inl ⟨_, rfl⟩) | exact .inr (.inr ⟨_, rfl⟩)
theorem Ext.trans (a : Ext T M H M1 H1) (b : Ext T M1 H1 M2 H2) : Ext T M H M2 H2 where
  kp := fun c o h k => b.kp c o (a.kp c o h k) k
  ke := fun c φ h => by
    rcases a.ke c φ h with q | ⟨m, φ', q⟩
    · rcases b.ke c φ q with q2 | ⟨m2, φ2, q2⟩
      · exact .inl q2
      · rcases a.nm c m2 with z | z
        · exact .inr ⟨z, φ2, q2⟩
        · exact absurd h (z φ)
    · rcases b.ke c φ' q with q2 | ⟨_, φ2, q2⟩
      · exact .inr ⟨m, φ', q2⟩
      · exact .inr ⟨m, φ2, q2⟩
  nm := fun c hc => by
    rcases b.nm c hc with q | q
    · exact a.nm c q
    · exact .inr fun φ e => by
        obtain ⟨φ', h'⟩ := a.ke' c φ e
        exact q φ' h'
  tb := fun h => b.tb (a.tb h)
  mm := a.mm.trans b.mm
  ms := b.ms
  nt := b.nt
  nw := fun x o h => by
    rcases b.nw x o h with q | q
    · exact a.nw x o q
    · refine .inr fun u e => ?_
      rcases kinds u with k | ⟨φ, rfl⟩ | k
      · exact q u (a.kp x u e k)
      · obtain ⟨φ', h'⟩ := a.ke' x φ e
        obtain ⟨ps, z⟩ := q _ h'
        cases z
      · exact k
theorem Ext.refl (ms : Same M H) (nt : NoT T M H) : Ext T M H M H :=
  ⟨fun _ _ h _ => h, fun _ φ h => .inl h, fun h => h, Same.refl M, ms, nt, fun _ _ h => .inl h, fun _ h => .inl h⟩
theorem same_upd {H : Hp} {p : Addr} {o : HO} (h : H p = none) : Same H (upd H p o) := fun a u e => by
  rw [upd_ne (ne_of_none e h)]
  exact e
/-- something new that nobody changes later -/
theorem Ext.new {p : Addr} {o : HO} (ms : Same M H) (nt : NoT T M H) (hp : H p = none) (ho : Kept o) (hi : ∀ C dx fs, o ≠ .ins C dx fs := by intro _ _ _ z; cases z) : Ext T M H (upd M p o) (upd H p o) where
  kp := fun b u e _ => same_upd hp b u e
  ke := fun b φ e => .inl (same_upd hp b _ e)
  nm := fun b h => .inl (h.of fun a C dx fs e => by
    by_cases q : a = p
    · subst q
      rw [upd_same] at e
      exact absurd (Option.some.inj e) (hi C dx fs)
    · rw [upd_ne q] at e
      exact e)
  tb := fun h => h.ext (same_upd hp)
  mm := same_upd (by
    cases e : M p with
    | none => rfl
    | some u =>
      rw [ms p u e] at hp
      cases hp)
  ms := fun a u e => by
    by_cases q : a = p
    · subst q
      rw [upd_same] at e ⊢
      exact e
    · rw [upd_ne q] at e ⊢
      exact ms a u e
  nt := ⟨fun a u e => by
    by_cases q : a = p
    · subst q
      rw [upd_same] at e
      cases e
      exact ho
    · rw [upd_ne q] at e
      exact nt.kd a u e, (nt.pl.same (same_upd hp)).monoM fun a C dx fs e => by
    by_cases q : a = p
    · subst q
      rw [upd_same] at e
      exact absurd (Option.some.inj e) (hi C dx fs)
    · rw [upd_ne q] at e
      exact e⟩
  nw := fun a u e => by
    by_cases q : a = p
    · subst q
      exact .inr fun u h => by
        rw [hp] at h
        cases h
    · rw [upd_ne q] at e
      exact .inl e
/-- the heap grows, M stays -/
theorem Ext.grow (ms : Same M H) (nt : NoT T M H) (e : Same H H') : Ext T M H M H' :=
  ⟨fun b o h _ => e b o h, fun b φ h => .inl (e b _ h), fun h => h.ext e, Same.refl M, ms.trans e, ⟨nt.kd, nt.pl.same e⟩, fun _ _ h => .inl h, fun _ h => .inl h⟩
theorem Ext.ofN (ms : Same M H) (nt : NoT T M H) (eN : ExtN H H') (tb : Tabs T H → Tabs T H') : Ext T M H M H' where
  kp := fun b o h k => eN b o h fun ps z => by
    subst z
    exact k
  ke := fun b φ h => .inl (eN b _ h fun ps z => by cases z)
  nm := fun _ h => .inl h
  tb := tb
  mm := Same.refl M
  ms := fun b o hb => eN b o (ms b o hb) fun ps z => by
    subst z
    exact nt.kd b _ hb
  nt := ⟨nt.kd, nt.pl.of (fun b xs q => by
    rcases q with (q | ⟨o, q⟩) | q
    · exact .inl (.inl (eN _ _ q fun ps z => by cases z))
    · exact .inl (.inr ⟨o, eN _ _ q fun ps z => by cases z⟩)
    · exact .inr q) fun b φ q => eN _ _ q fun ps z => by cases z⟩
  nw := fun _ _ h => .inl h

/-! ### the names of a def -/
/-- an attribute: data, or a list that the object alone holds -/
inductive Fl where
  | dat (d : D) | own (ds : List D)
abbrev Ob := List (Str × Fl)
inductive Sl where
  | dat (d : D) | own (ds : List D) | dct (kvs : List (L2.Key × D)) | dco (kvs : List (Part × Int)) | obj (C : Str) (q : Option Addr) (fs : Ob) | rob (C : Str) (fs : Ob)
abbrev Env := List (Option Sl)
section
variable (K : PySem.W.Frag) (mg : Str → Option Value) (M : Hp)
/-- the pairs of a dict -/
inductive RpK : List (L2.Key × V) → List (L2.Key × D) → Prop
  | nil : RpK [] []
  | cons {k : L2.Key} {v : V} {d : D} {ws : List (L2.Key × V)} {ks : List (L2.Key × D)} : Rp K mg M v d → RpK ws ks → RpK ((k, v) :: ws) ((k, d) :: ks)
end
theorem RpK.mono (e : Same M M') : ∀ {ws : List (L2.Key × V)} {ks : List (L2.Key × D)}, RpK K mg M ws ks → RpK K mg M' ws ks
  | _, _, .nil => .nil
  | _, _, .cons h r => .cons (h.mono e) (RpK.mono e r)
theorem set_get {Γ : Env} {i j : Nat} {x y : Option Sl} (q : (Γ.set i x)[j]? = some y) : (i = j ∧ i < Γ.length ∧ y = x) ∨ (i ≠ j ∧ Γ[j]? = some y) := by
  by_cases hj : i = j
  · subst hj
    by_cases hi : i < Γ.length
    · rw [List.getElem?_set_self hi] at q
      exact .inl ⟨rfl, hi, (Option.some.inj q).symm⟩
    · rw [List.getElem?_eq_none (by rw [List.length_set]; omega)] at q
      cases q
  · rw [List.getElem?_set_ne hj] at q
    exact .inr ⟨hj, q⟩
/-- new since the entry -/
def Fr (H0 : Hp) (a : Addr) : Prop := ∀ u, H0 a = some u → ∃ ps, u = .tbl ps
/-- there at the entry -/
def Ol (H0 : Hp) (a : Addr) : Prop := ∃ u, H0 a = some u ∧ Kept u
theorem Fr.ne {a b : Addr} (f : Fr H0 a) (o : Ol H0 b) : b ≠ a := fun z => by
  subst z
  obtain ⟨u, h1, h2⟩ := o
  obtain ⟨ps, rfl⟩ := f u h1
  exact h2.elim
theorem Ext.out (e : Ext T M H M' H') {a : Addr} {o : HO} (hm : M a = none) (hh : H a = some o) (ho : Kept o) : M' a = none ∧ H' a = some o := by
  refine ⟨?_, e.kp a o hh ho⟩
  cases q : M' a with
  | none => rfl
  | some u =>
    rcases e.nw a u q with z | z
    · rw [hm] at z
      cases z
    · obtain ⟨ps, h⟩ := z o hh
      subst h
      exact ho.elim
/-! #### objects -/
def FlOk (K : PySem.W.Frag) (mg : Str → Option Value) (M H : Hp) (v : V) : Fl → Prop
  | .dat d => Rp K mg M v d
  | .own ds => ∃ a vs, v = .ref a ∧ H a = some (.lst vs) ∧ M a = none ∧ RpL K mg M vs ds
def FlOwn (v : V) : Fl → Addr → Prop
  | .dat _, _ => False
  | .own _, a => v = .ref a
inductive FsOk (K : PySem.W.Frag) (mg : Str → Option Value) (M H : Hp) : List (Str × V) → Ob → Prop
  | nil : FsOk K mg M H [] []
  | cons {x : Str} {v : V} {f : Fl} {vs : List (Str × V)} {fs : Ob} : FlOk K mg M H v f → FsOk K mg M H vs fs → FsOk K mg M H ((x, v) :: vs) ((x, f) :: fs)
def FsOwn : List (Str × V) → Ob → Addr → Prop
  | (_, v) :: vs, (_, f) :: fs, a => FlOwn v f a ∨ FsOwn vs fs a
  | _, _, _ => False
def FsNd : List (Str × V) → Ob → Prop
  | (_, v) :: vs, (_, f) :: fs => (∀ a, FlOwn v f a → ¬ FsOwn vs fs a) ∧ FsNd vs fs
  | _, _ => True
/-- an object of its own at p -/
def ObAt (K : PySem.W.Frag) (mg : Str → Option Value) (M H : Hp) (p : Addr) (C : Str) (fs : Ob) : Prop := ∃ cl dx vs, mg C = some (.ref cl) ∧ H p = some (.ins cl dx vs) ∧ M p = none ∧ FsOk K mg M H vs fs ∧ FsNd vs fs
/-- what it holds alone -/
def ObOwn (H : Hp) (p : Addr) (fs : Ob) (a : Addr) : Prop := a = p ∨ ∃ cl dx vs, H p = some (.ins cl dx vs) ∧ FsOwn vs fs a
theorem FlOk.ext {v : V} {f : Fl} (e : Ext T M H M' H') (h : FlOk K mg M H v f) : FlOk K mg M' H' v f := by
  cases f with
  | dat d => exact Rp.mono e.mm h
  | own ds =>
    obtain ⟨a, vs, h1, h2, h3, h4⟩ := h
    obtain ⟨q1, q2⟩ := e.out h3 h2 True.intro
    exact ⟨a, vs, h1, q2, q1, h4.mono e.mm⟩
theorem FsOk.ext (e : Ext T M H M' H') : ∀ {vs : List (Str × V)} {fs : Ob}, FsOk K mg M H vs fs → FsOk K mg M' H' vs fs
  | _, _, .nil => .nil
  | _, _, .cons h r => .cons (h.ext e) (FsOk.ext e r)
theorem ObAt.ext {p : Addr} {C : Str} {fs : Ob} (e : Ext T M H M' H') (h : ObAt K mg M H p C fs) : ObAt K mg M' H' p C fs := by
  obtain ⟨cl, dx, vs, h1, h2, h3, h4, h5⟩ := h
  obtain ⟨q1, q2⟩ := e.out h3 h2 True.intro
  exact ⟨cl, dx, vs, h1, q2, q1, h4.ext e, h5⟩
theorem ObOwn.back {p a : Addr} {C : Str} {fs : Ob} (e : Ext T M H M' H') (h : ObAt K mg M H p C fs) (o : ObOwn H' p fs a) : ObOwn H p fs a := by
  obtain ⟨cl, dx, vs, h1, h2, h3, h4, h5⟩ := h
  obtain ⟨q1, q2⟩ := e.out h3 h2 True.intro
  rcases o with o | ⟨cl', dx', vs', o1, o2⟩
  · exact .inl o
  · rw [q2] at o1
    cases o1
    exact .inr ⟨_, _, _, h2, o2⟩
theorem FsOk.frame {a : Addr} {o : HO} : ∀ {vs : List (Str × V)} {fs : Ob}, FsOk K mg M H vs fs → ¬ FsOwn vs fs a → FsOk K mg M (upd H a o) vs fs
  | _, _, .nil, _ => .nil
  | _, _, .cons (f := f) h r, n => by
    refine .cons ?_ (FsOk.frame r fun z => n (.inr z))
    cases f with
    | dat d => exact h
    | own ds =>
      obtain ⟨b, us, h1, h2, h3, h4⟩ := h
      refine ⟨b, us, h1, ?_, h3, h4⟩
      rw [upd_ne (fun z => n (.inl (by subst z; exact h1)))]
      exact h2
theorem ObAt.frame {p a : Addr} {C : Str} {fs : Ob} {o : HO} (h : ObAt K mg M H p C fs) (n : ¬ ObOwn H p fs a) : ObAt K mg M (upd H a o) p C fs := by
  obtain ⟨cl, dx, vs, h1, h2, h3, h4, h5⟩ := h
  refine ⟨cl, dx, vs, h1, ?_, h3, h4.frame fun z => n (.inr ⟨cl, dx, vs, h2, z⟩), h5⟩
  rw [upd_ne (fun z => n (.inl z.symm))]
  exact h2
theorem ObOwn.frame {p a b : Addr} {fs : Ob} {o : HO} (n : ¬ ObOwn H p fs a) (h : ObOwn (upd H a o) p fs b) : ObOwn H p fs b := by
  rcases h with h | ⟨cl, dx, vs, h1, h2⟩
  · exact .inl h
  · rw [upd_ne (fun z => n (.inl z.symm))] at h1
    exact .inr ⟨cl, dx, vs, h1, h2⟩
/-- what is held alone is a list or an instance -/
theorem FsOk.own_lst {a : Addr} : ∀ {vs : List (Str × V)} {fs : Ob}, FsOk K mg M H vs fs → FsOwn vs fs a → (∃ us, H a = some (.lst us)) ∧ M a = none
  | _, _, .cons (f := f) h r, q => by
    rcases q with q | q
    · cases f with
      | dat d => exact q.elim
      | own ds =>
        obtain ⟨b, us, h1, h2, h3, h4⟩ := h
        have q : _ = V.ref a := q
        rw [h1] at q
        cases q
        exact ⟨⟨us, h2⟩, h3⟩
    · exact FsOk.own_lst r q
theorem ObAt.own_kept {p a : Addr} {C : Str} {fs : Ob} (h : ObAt K mg M H p C fs) (q : ObOwn H p fs a) : (∃ o, H a = some o ∧ Kept o ∧ (∀ φ, o ≠ .ext φ) ∧ (∀ xs, o ≠ .tup xs) ∧ (∀ u v, o ≠ .frz u v)) ∧ M a = none := by
  obtain ⟨cl, dx, vs, h1, h2, h3, h4, h5⟩ := h
  rcases q with rfl | ⟨cl', dx', vs', o1, o2⟩
  · exact ⟨⟨_, h2, True.intro, (fun _ z => by cases z), (fun _ z => by cases z), (fun _ _ z => by cases z)⟩, h3⟩
  · rw [h2] at o1
    cases o1
    obtain ⟨⟨us, q1⟩, q2⟩ := h4.own_lst o2
    exact ⟨⟨_, q1, True.intro, (fun _ z => by cases z), (fun _ z => by cases z), (fun _ _ z => by cases z)⟩, q2⟩
/-! #### slots -/
def DcAt (K : PySem.W.Frag) (M H : Hp) (a : Addr) (kvs : List (Part × Int)) : Prop := ∃ xs : List (Part × Addr × Value), H a = some (DicO a xs) ∧ M a = none ∧ ¬ MemoA M a ∧ (xs.map fun x => (x.1, vI x.2.2)) = kvs ∧ ∀ x ∈ xs, SqT K M x.2.1 (x.1.map leafV) ∧ ∃ k tk, x.2.2 = .int k tk
def SlOk (K : PySem.W.Frag) (mg : Str → Option Value) (H0 M H : Hp) (v : V) : Sl → Prop
  | .dat d => Rp K mg M v d
  | .own ds => ∃ a vs, v = .ref a ∧ H a = some (.lst vs) ∧ M a = none ∧ Fr H0 a ∧ RpL K mg M vs ds
  | .dct ks => ∃ a ws, v = .ref a ∧ H a = some (.dK ws) ∧ M a = none ∧ Fr H0 a ∧ RpK K mg M ws ks
  | .dco kvs => ∃ a, v = .ref a ∧ DcAt K M H a kvs ∧ Fr H0 a
  | .obj C q fs => ∃ p, v = .ref p ∧ ObAt K mg M H p C fs ∧ (∀ a, ObOwn H p fs a → Fr H0 a) ∧ ∀ p', q = some p' → p = p'
  | .rob C fs => ∃ p, v = .ref p ∧ ObAt K mg M H p C fs ∧ ∀ a, ObOwn H p fs a → Ol H0 a
def Owns (H : Hp) (v : V) : Sl → Addr → Prop
  | .own _, a => v = .ref a
  | .dct _, a => v = .ref a
  | .dco _, a => v = .ref a
  | .obj _ _ fs, a => ∃ p, v = .ref p ∧ ObOwn H p fs a
  | _, _ => False
theorem DcAt.ext {a : Addr} {kvs : List (Part × Int)} (e : Ext T M H M' H') (h : DcAt K M H a kvs) : DcAt K M' H' a kvs := by
  obtain ⟨xs, h1, h2, h3, h4, h5⟩ := h
  have n1 : ¬ MemoA M' a := fun z => by
    rcases e.nm a z with z | z
    · exact h3 z
    · exact z _ h1
  refine ⟨xs, ?_, ?_, n1, h4, fun x hx => ⟨same_sqT e.mm (h5 x hx).1, (h5 x hx).2⟩⟩
  · rcases e.ke a _ h1 with q | q
    · exact q
    · exact (h3 q.1).elim
  · cases q : M' a with
    | none => rfl
    | some u =>
      rcases e.nw a u q with z | z
      · rw [h2] at z
        cases z
      · obtain ⟨ps, z⟩ := z _ h1
        cases z
theorem SlOk.ext {v : V} {s : Sl} (e : Ext T M H M' H') (h : SlOk K mg H0 M H v s) : SlOk K mg H0 M' H' v s := by
  cases s with
  | dat d => exact Rp.mono e.mm h
  | own ds =>
    obtain ⟨a, vs, h1, h2, h3, hf, h4⟩ := h
    obtain ⟨q1, q2⟩ := e.out h3 h2 True.intro
    exact ⟨a, vs, h1, q2, q1, hf, h4.mono e.mm⟩
  | dct ks =>
    obtain ⟨a, ws, h1, h2, h3, hf, h4⟩ := h
    obtain ⟨q1, q2⟩ := e.out h3 h2 True.intro
    exact ⟨a, ws, h1, q2, q1, hf, h4.mono e.mm⟩
  | dco kvs =>
    obtain ⟨a, h1, h2, h3⟩ := h
    exact ⟨a, h1, h2.ext e, h3⟩
  | obj C q fs =>
    obtain ⟨p, h1, h2, h3, h4⟩ := h
    exact ⟨p, h1, h2.ext e, fun a ha => h3 a (ha.back e h2), h4⟩
  | rob C fs =>
    obtain ⟨p, h1, h2, h3⟩ := h
    exact ⟨p, h1, h2.ext e, fun a ha => h3 a (ha.back e h2)⟩
theorem Owns.back {v : V} {s : Sl} {a : Addr} (e : Ext T M H M' H') (h : SlOk K mg H0 M H v s) (o : Owns H' v s a) : Owns H v s a := by
  cases s with
  | dat d => exact o
  | own ds => exact o
  | dct ks => exact o
  | dco kvs => exact o
  | rob C fs => exact o
  | obj C q fs =>
    obtain ⟨p, h1, h2, h3, h4⟩ := h
    obtain ⟨p', o1, o2⟩ := o
    rw [h1] at o1
    cases o1
    exact ⟨p, h1, o2.back e h2⟩
theorem Owns.fr {v : V} {s : Sl} {a : Addr} (h : SlOk K mg H0 M H v s) (o : Owns H v s a) : Fr H0 a := by
  cases s with
  | dat d => exact o.elim
  | rob C fs => exact o.elim
  | own ds =>
    obtain ⟨b, vs, h1, h2, h3, hf, h4⟩ := h
    have o : v = .ref a := o
    rw [h1] at o
    cases o
    exact hf
  | dct ds =>
    obtain ⟨b, vs, h1, h2, h3, hf, h4⟩ := h
    have o : v = .ref a := o
    rw [h1] at o
    cases o
    exact hf
  | dco kvs =>
    obtain ⟨b, h1, h2, h3⟩ := h
    have o : v = .ref a := o
    rw [h1] at o
    cases o
    exact h3
  | obj C q fs =>
    obtain ⟨p, h1, h2, h3, h4⟩ := h
    obtain ⟨p', o1, o2⟩ := o
    rw [h1] at o1
    cases o1
    exact h3 a o2
/-- a thing that this slot does not hold is changed -/
theorem SlOk.frame {v : V} {s : Sl} {a : Addr} {o : HO} (h : SlOk K mg H0 M H v s) (n : ¬ Owns H v s a) (f : Fr H0 a) : SlOk K mg H0 M (upd H a o) v s := by
  cases s with
  | dat d => exact h
  | own ds =>
    obtain ⟨b, vs, h1, h2, h3, hf, h4⟩ := h
    refine ⟨b, vs, h1, ?_, h3, hf, h4⟩
    rw [upd_ne (fun z => n (by subst z; exact h1))]
    exact h2
  | dct ds =>
    obtain ⟨b, vs, h1, h2, h3, hf, h4⟩ := h
    refine ⟨b, vs, h1, ?_, h3, hf, h4⟩
    rw [upd_ne (fun z => n (by subst z; exact h1))]
    exact h2
  | dco kvs =>
    obtain ⟨b, h1, ⟨xs, k1, k2⟩, h3⟩ := h
    refine ⟨b, h1, ⟨xs, ?_, k2⟩, h3⟩
    rw [upd_ne (fun z => n (by subst z; exact h1))]
    exact k1
  | obj C q fs =>
    obtain ⟨p, h1, h2, h3, h4⟩ := h
    have n' : ¬ ObOwn H p fs a := fun z => n ⟨p, h1, z⟩
    exact ⟨p, h1, h2.frame n', fun b hb => h3 b (hb.frame n'), h4⟩
  | rob C fs =>
    obtain ⟨p, h1, h2, h3⟩ := h
    have n' : ¬ ObOwn H p fs a := fun z => f.ne (h3 a z) rfl
    exact ⟨p, h1, h2.frame n', fun b hb => h3 b (hb.frame n')⟩
theorem Owns.frame {v : V} {s : Sl} {a b : Addr} {o : HO} (n : ¬ Owns H v s a) (h : Owns (upd H a o) v s b) : Owns H v s b := by
  cases s with
  | obj C q fs =>
    obtain ⟨p, h1, h2⟩ := h
    exact ⟨p, h1, h2.frame fun z => n ⟨p, h1, z⟩⟩
  | _ => exact h
/-- what a slot holds alone is there, and not shared -/
theorem Owns.here {v : V} {s : Sl} {a : Addr} (h : SlOk K mg H0 M H v s) (o : Owns H v s a) : (∃ u, H a = some u) ∧ M a = none := by
  cases s with
  | dat d => exact o.elim
  | rob C fs => exact o.elim
  | own ds =>
    obtain ⟨b, vs, h1, h2, h3, hf, h4⟩ := h
    have o : v = .ref a := o
    rw [h1] at o
    cases o
    exact ⟨⟨_, h2⟩, h3⟩
  | dct ds =>
    obtain ⟨b, vs, h1, h2, h3, hf, h4⟩ := h
    have o : v = .ref a := o
    rw [h1] at o
    cases o
    exact ⟨⟨_, h2⟩, h3⟩
  | dco kvs =>
    obtain ⟨b, h1, ⟨xs, k1, k2, k3⟩, h3⟩ := h
    have o : v = .ref a := o
    rw [h1] at o
    cases o
    exact ⟨⟨_, k1⟩, k2⟩
  | obj C q fs =>
    obtain ⟨p, h1, h2, h3, h4⟩ := h
    obtain ⟨p', o1, o2⟩ := o
    rw [h1] at o1
    cases o1
    obtain ⟨⟨o, q1, q2⟩, q3⟩ := h2.own_kept o2
    exact ⟨⟨o, q1⟩, q3⟩
/-- Γ tells what the slots σ hold: data, or a thing of its own that nobody else holds -/
structure Rs (K : PySem.W.Frag) (mg : Str → Option Value) (T : Tb) (H0 M H : Hp) (Γ : Env) (σ : L2.St) : Prop where
  ms : Same M H
  nt : NoT T M H
  tb : Tabs T H
  len : Γ.length = σ.length
  slt : ∀ (i : Nat) s, Γ[i]? = some (some s) → ∃ v, σ[i]? = some (some v) ∧ SlOk K mg H0 M H v s
  dj : ∀ (i j : Nat) s t v w a, Γ[i]? = some (some s) → Γ[j]? = some (some t) → σ[i]? = some (some v) → σ[j]? = some (some w) → Owns H v s a → Owns H w t a → i = j
variable {Γ Γ' : Env} {σ σ' : L2.St}
theorem Rs.dat (r : Rs K mg T H0 M H Γ σ) (i : Nat) (d : D) (h : Γ[i]? = some (some (.dat d))) : ∃ v, σ[i]? = some (some v) ∧ Rp K mg M v d := r.slt i _ h
theorem Rs.own (r : Rs K mg T H0 M H Γ σ) (i : Nat) (ds : List D) (h : Γ[i]? = some (some (.own ds))) : ∃ a vs, σ[i]? = some (some (.ref a)) ∧ H a = some (.lst vs) ∧ M a = none ∧ Fr H0 a ∧ RpL K mg M vs ds := by
  obtain ⟨v, h1, a, vs, h2, h3⟩ := r.slt i _ h
  subst h2
  exact ⟨a, vs, h1, h3⟩
theorem Rs.dct (r : Rs K mg T H0 M H Γ σ) (i : Nat) (ks : List (L2.Key × D)) (h : Γ[i]? = some (some (.dct ks))) : ∃ a ws, σ[i]? = some (some (.ref a)) ∧ H a = some (.dK ws) ∧ M a = none ∧ Fr H0 a ∧ RpK K mg M ws ks := by
  obtain ⟨v, h1, a, vs, h2, h3⟩ := r.slt i _ h
  subst h2
  exact ⟨a, vs, h1, h3⟩
theorem Rs.ext (r : Rs K mg T H0 M H Γ σ) (e : Ext T M H M' H') : Rs K mg T H0 M' H' Γ σ where
  ms := e.ms
  nt := e.nt
  tb := e.tb r.tb
  len := r.len
  slt := fun i s h => by
    obtain ⟨v, h1, h2⟩ := r.slt i s h
    exact ⟨v, h1, h2.ext e⟩
  dj := fun i j s t v w a h1 h2 h3 h4 o1 o2 => by
    obtain ⟨v', k1, k2⟩ := r.slt i s h1
    rw [h3] at k1
    cases k1
    obtain ⟨w', l1, l2⟩ := r.slt j t h2
    rw [h4] at l1
    cases l1
    exact r.dj i j s t v w a h1 h2 h3 h4 (o1.back e k2) (o2.back e l2)
theorem lt_of_some {α : Type} {l : List α} {i : Nat} {x : α} (h : l[i]? = some x) : i < l.length := by
  by_cases q : i < l.length
  · exact q
  · rw [List.getElem?_eq_none (by omega)] at h
    cases h
theorem Rs.len_lt (r : Rs K mg T H0 M H Γ σ) {i : Nat} (h : i < Γ.length) : i < σ.length := by
  rw [← r.len]
  exact h
/-- slot i gets another thing; what it holds alone no other slot does -/
theorem Rs.put (r : Rs K mg T H0 M H Γ σ) (i : Nat) {v : V} {s : Sl} (h : SlOk K mg H0 M H v s) (n : ∀ j t w a, i ≠ j → Γ[j]? = some (some t) → σ[j]? = some (some w) → Owns H v s a → Owns H w t a → False) : Rs K mg T H0 M H (Γ.set i (some s)) (σ.set i (some v)) where
  ms := r.ms
  nt := r.nt
  tb := r.tb
  len := by rw [List.length_set, List.length_set, r.len]
  slt := fun j t q => by
    rcases set_get q with ⟨rfl, hl, z⟩ | ⟨hj, q⟩
    · cases z
      exact ⟨v, List.getElem?_set_self (r.len_lt hl), h⟩
    · rw [List.getElem?_set_ne hj]
      exact r.slt j t q
  dj := fun j k t u w x a q1 q2 q3 q4 o1 o2 => by
    rcases set_get q1 with ⟨rfl, hl, z⟩ | ⟨hj, q1⟩
    · cases z
      rw [List.getElem?_set_self (r.len_lt hl)] at q3
      cases q3
      rcases set_get q2 with ⟨rfl, hl, z⟩ | ⟨hk, q2⟩
      · rfl
      · rw [List.getElem?_set_ne hk] at q4
        exact (n k u x a hk q2 q4 o1 o2).elim
    · rw [List.getElem?_set_ne hj] at q3
      rcases set_get q2 with ⟨rfl, hl, z⟩ | ⟨hk, q2⟩
      · cases z
        rw [List.getElem?_set_self (r.len_lt hl)] at q4
        cases q4
        exact (n j t w a hj q1 q3 o2 o1).elim
      · rw [List.getElem?_set_ne hk] at q4
        exact r.dj j k t u w x a q1 q2 q3 q4 o1 o2
/-- a thing that slot i holds is changed -/
theorem Rs.chg (r : Rs K mg T H0 M H Γ σ) {i : Nat} {v : V} {s s' : Sl} {a : Addr} {o' : HO} (hi : Γ[i]? = some (some s)) (hs : σ[i]? = some (some v)) (ha : Owns H v s a) (nt : NoT T M (upd H a o')) (tb : Tabs T (upd H a o')) (h : SlOk K mg H0 M (upd H a o') v s') (ho : ∀ b, Owns (upd H a o') v s' b → Owns H v s b) :
    Rs K mg T H0 M (upd H a o') (Γ.set i (some s')) σ := by
  obtain ⟨v', k1, k2⟩ := r.slt i s hi
  rw [hs] at k1
  cases k1
  have fr := ha.fr k2
  have no : ∀ j t w, i ≠ j → Γ[j]? = some (some t) → σ[j]? = some (some w) → ¬ Owns H w t a := fun j t w hj q1 q2 z => hj (r.dj i j s t v w a hi q1 hs q2 ha z)
  refine ⟨fun b o hb => ?_, nt, tb, by rw [List.length_set, r.len], fun j t q => ?_, fun j k t u w x b q1 q2 q3 q4 o1 o2 => ?_⟩
  · rw [upd_ne (fun z => ?_)]
    · exact r.ms b o hb
    · subst z
      rw [(ha.here k2).2] at hb
      cases hb
  · rcases set_get q with ⟨rfl, hl, z⟩ | ⟨hj, q⟩
    · cases z
      exact ⟨v, hs, h⟩
    · obtain ⟨w, w1, w2⟩ := r.slt j t q
      exact ⟨w, w1, w2.frame (no j t w hj q w1) fr⟩
  · rcases set_get q1 with ⟨rfl, hl, z⟩ | ⟨hj, q1⟩
    · cases z
      rw [hs] at q3
      cases q3
      rcases set_get q2 with ⟨rfl, hl, z⟩ | ⟨hk, q2⟩
      · rfl
      · exact (r.dj _ _ _ _ _ _ b hi q2 hs q4 (ho b o1) (o2.frame (no k u x hk q2 q4)))
    · rcases set_get q2 with ⟨rfl, hl, z⟩ | ⟨hk, q2⟩
      · cases z
        rw [hs] at q4
        cases q4
        exact (r.dj _ _ _ _ _ _ b q1 hi q3 hs (o1.frame (no j t w hj q1 q3)) (ho b o2))
      · exact r.dj j k t u w x b q1 q2 q3 q4 (o1.frame (no j t w hj q1 q3)) (o2.frame (no k u x hk q2 q4))
/-- what slots hold alone is there: a new thing is not among them -/
theorem Rs.no_new (r : Rs K mg T H0 M H Γ σ) {p : Addr} (hp : H p = none) {j : Nat} {t : Sl} {w : V} (q1 : Γ[j]? = some (some t)) (q2 : σ[j]? = some (some w)) : ¬ Owns H w t p := fun z => by
  obtain ⟨w', w1, w2⟩ := r.slt j t q1
  rw [q2] at w1
  cases w1
  obtain ⟨⟨u, h⟩, _⟩ := z.here w2
  rw [hp] at h
  cases h
theorem Rs.ext0 (r : Rs K mg T H0 M H Γ σ) : Ext T M H M H := Ext.refl r.ms r.nt

/-! ### readings -/
def Fin (K : PySem.W.Frag) (mg : Str → Option Value) (T : Tb) (M H : Hp) (Q : VK) (E : XK) : Out D → Prop
  | .ok d => ∀ v H' M', Ext T M H M' H' → Rp K mg M' v d → Q v H'
  | .exc c => ∀ C H' M', Ext T M H M' H' → mg c = some (.ref C) → E (.ref C) none H'
  | .bad => False
def FinA (K : PySem.W.Frag) (mg : Str → Option Value) (T : Tb) (M H : Hp) (Q : List V → Hp → Prop) (E : XK) : Out (List D) → Prop
  | .ok ds => ∀ vs H' M', Ext T M H M' H' → RpL K mg M' vs ds → Q vs H'
  | .exc c => ∀ C H' M', Ext T M H M' H' → mg c = some (.ref C) → E (.ref C) none H'
  | .bad => False
def FinT (mg : Str → Option Value) (T : Tb) (M H : Hp) (Q : Bool → Hp → Prop) (E : XK) : Out Bool → Prop
  | .ok b => ∀ H' M', Ext T M H M' H' → Q b H'
  | .exc c => ∀ C H' M', Ext T M H M' H' → mg c = some (.ref C) → E (.ref C) none H'
  | .bad => False
def tOf (K : PySem.W.Frag) (mg : Str → Option Value) (T : Tb) (E : XK) (m : Env → Out D) : TE := fun σ H Q => ∃ Γ M H0, Rs K mg T H0 M H Γ σ ∧ Fin K mg T M H Q E (m Γ)
def taOf (K : PySem.W.Frag) (mg : Str → Option Value) (T : Tb) (E : XK) (m : Env → Out (List D)) : TA := fun σ H Q => ∃ Γ M H0, Rs K mg T H0 M H Γ σ ∧ FinA K mg T M H Q E (m Γ)
def ttOf (K : PySem.W.Frag) (mg : Str → Option Value) (T : Tb) (E : XK) (m : Env → Out Bool) : TT := fun σ H Q => ∃ Γ M H0, Rs K mg T H0 M H Γ σ ∧ FinT mg T M H Q E (m Γ)

theorem weakE {X : Cx} {e : Expr} {t t' : TE} (h : PE X e t) (w : ∀ σ H Q, t' σ H Q → t σ H Q) : PE X e t' := ⟨fun pins s σ H Q I q => h.run pins s σ H Q I (w σ H Q q)⟩
theorem weakT {X : Cx} {e : Expr} {t t' : TT} (h : PT X e t) (w : ∀ σ H Q, t' σ H Q → t σ H Q) : PT X e t' := ⟨fun pins s σ H Q I q => h.run pins s σ H Q I (w σ H Q q)⟩
theorem weakW {X : Cx} {e : Expr} {t t' : TT} (h : PW X e t) (w : ∀ σ H Q, t' σ H Q → t σ H Q) : PW X e t' := ⟨fun wh pins s σ H Q I q => h.run wh pins s σ H Q I (w σ H Q q)⟩
theorem weakA {X : Cx} {es : List Expr} {t t' : TA} (h : PA X es t) (w : ∀ σ H Q, t' σ H Q → t σ H Q) : PA X es t' := ⟨fun pos pins s σ H Q I q => h.run pos pins s σ H Q I (w σ H Q q)⟩
theorem weakS {X : Cx} {e : Stmt} {t t' : TS} (h : PS X e t) (w : ∀ D σ H, t' D σ H → t D σ H) : PS X e t' := ⟨fun pins s σ H D I q => h.run pins s σ H D I (w D σ H q)⟩
theorem weakSs {X : Cx} {e : List Stmt} {t t' : TS} (h : PSs X e t) (w : ∀ D σ H, t' D σ H → t D σ H) : PSs X e t' := ⟨fun pins s σ H D I q => h.run pins s σ H D I (w D σ H q)⟩

/-- the first part of a reading done: go on behind it -/
theorem Fin.bind {Q Q' : VK} {E : XK} {o : Out D} {f : D → Out D} (h : Fin K mg T M H Q E (o.bind f))
    (k : ∀ d v H1 M1, o = .ok d → Ext T M H M1 H1 → Rp K mg M1 v d → Fin K mg T M1 H1 Q E (f d) → Q' v H1) : Fin K mg T M H Q' E o := by
  cases o with
  | ok d =>
    intro v H1 M1 e r
    refine k d v H1 M1 rfl e r ?_
    have h : Fin K mg T M H Q E (f d) := h
    cases q : f d with
    | ok d2 =>
      rw [q] at h
      exact fun v2 H2 M2 e2 r2 => h v2 H2 M2 (e.trans e2) r2
    | exc c =>
      rw [q] at h
      exact fun C H2 M2 e2 r2 => h C H2 M2 (e.trans e2) r2
    | bad =>
      rw [q] at h
      exact h
  | exc c => exact h
  | bad => exact h
theorem Fin.up {Q : VK} {E : XK} {o : Out D} (h : Fin K mg T M H Q E o) (e : Ext T M H M1 H1) : Fin K mg T M1 H1 Q E o := by
  cases o with
  | ok d => exact fun v2 H2 M2 e2 r2 => h v2 H2 M2 (e.trans e2) r2
  | exc c => exact fun C H2 M2 e2 r2 => h C H2 M2 (e.trans e2) r2
  | bad => exact h
theorem FinA.up {Q : List V → Hp → Prop} {E : XK} {o : Out (List D)} (h : FinA K mg T M H Q E o) (e : Ext T M H M1 H1) : FinA K mg T M1 H1 Q E o := by
  cases o with
  | ok d => exact fun v2 H2 M2 e2 r2 => h v2 H2 M2 (e.trans e2) r2
  | exc c => exact fun C H2 M2 e2 r2 => h C H2 M2 (e.trans e2) r2
  | bad => exact h
theorem FinT.up {Q : Bool → Hp → Prop} {E : XK} {o : Out Bool} (h : FinT mg T M H Q E o) (e : Ext T M H M1 H1) : FinT mg T M1 H1 Q E o := by
  cases o with
  | ok d => exact fun H2 M2 e2 => h H2 M2 (e.trans e2)
  | exc c => exact fun C H2 M2 e2 r2 => h C H2 M2 (e.trans e2) r2
  | bad => exact h

/-! ### meanings -/
def mVar (i : Nat) : Env → Out D := fun Γ => match Γ[i]? with
  | some (some (.dat d)) => .ok d
  | _ => .bad
def mC (d : D) : Env → Out D := fun _ => .ok d
def m1 (f : D → Out D) (a : Env → Out D) : Env → Out D := fun Γ => (a Γ).bind f
def m2 (f : D → D → Out D) (a b : Env → Out D) : Env → Out D := fun Γ => (a Γ).bind fun x => (b Γ).bind (f x)
def mNil : Env → Out (List D) := fun _ => .ok []
def mCons (a : Env → Out D) (b : Env → Out (List D)) : Env → Out (List D) := fun Γ => (a Γ).bind fun x => (b Γ).bind fun xs => .ok (x :: xs)
def mN (f : List D → Out D) (a : Env → Out (List D)) : Env → Out D := fun Γ => (a Γ).bind f
section
variable {X : Cx} {E : XK}
abbrev PEm (X : Cx) (T : Tb) (E : XK) (e : Expr) (m : Env → Out D) : Prop := PE X e (tOf X.K X.mg T E m)
abbrev PAm (X : Cx) (T : Tb) (E : XK) (e : List Expr) (m : Env → Out (List D)) : Prop := PA X e (taOf X.K X.mg T E m)
abbrev PTm (X : Cx) (T : Tb) (E : XK) (e : Expr) (m : Env → Out Bool) : Prop := PT X e (ttOf X.K X.mg T E m)
abbrev PWm (X : Cx) (T : Tb) (E : XK) (e : Expr) (m : Env → Out Bool) : Prop := PW X e (ttOf X.K X.mg T E m)
theorem ev (i : Nat) {x : Str} {pos : Pos} (hN : X.N[i]? = some x := by rfl) (hv : Vis X.env.scope x := by first | exact Or.inl rfl | exact Or.inr (Or.inl rfl) | exact Or.inr (Or.inr rfl)) (hd : (x == ("__debug__" : Str)) = false := by decide)
    (hcd : (x == ("__classdict__" : Str)) = false := by decide) : PEm X T E (.Name x pos) (mVar i) := by
  refine weakE (pe_var hN hv hd hcd) fun σ H Q h => ?_
  obtain ⟨Γ, M, H0, r, f⟩ := h
  unfold mVar at f
  cases q : Γ[i]? with
  | none =>
    rw [q] at f
    exact f.elim
  | some o =>
    rw [q] at f
    cases o with
    | none => exact f.elim
    | some sl =>
      cases sl with
      | dat d =>
        obtain ⟨v, h1, h2⟩ := r.dat i d q
        exact ⟨v, h1, f v H M r.ext0 h2⟩
      | _ => exact f.elim
theorem ec {e : Expr} {v : V} {d : D} (h : PE X e (tC v)) (hr : ∀ M, Rp X.K X.mg M v d) : PEm X T E e (mC d) := by
  refine weakE h fun σ H Q h => ?_
  obtain ⟨Γ, M, H0, r, f⟩ := h
  exact f v H M r.ext0 (hr M)
theorem e_int {i j pos} : PEm X T E (.Constant (.int i) j pos) (mC (.int i)) := ec pe_int fun _ => .int i
theorem e_bl {b j pos} : PEm X T E (.Constant (.bool b) j pos) (mC (.bl b)) := ec pe_bl fun _ => .bl b
theorem e_non {j pos} : PEm X T E (.Constant .none j pos) (mC .non) := ec pe_non fun _ => .non
theorem e_str {x j pos} : PEm X T E (.Constant (.str x) j pos) (mC (.str x)) := ec pe_str fun _ => .str x

/-- a two-place operation's rule and its data -/
def OpD (K : PySem.W.Frag) (mg : Str → Option Value) (T : Tb) (r : R2) (f : D → D → Out D) : Prop :=
  ∀ x y dx dy M H Q d, Same M H → (NoT T M H) → Rp K mg M x dx → Rp K mg M y dy → f dx dy = .ok d → (∀ v H' M', Ext T M H M' H' → Rp K mg M' v d → Q v H') → r x y H Q
def noX (f : D → D → Out D) : Prop := ∀ x y c, f x y ≠ .exc c
theorem tOp_of {r : R2} {f : D → D → Out D} {a b : Env → Out D} (hd : OpD K mg T r f) (hx : noX f) {σ : L2.St} {H : Hp} {Q : VK} (h : tOf K mg T E (m2 f a b) σ H Q) : tOp r (tOf K mg T E a) (tOf K mg T E b) σ H Q := by
  obtain ⟨Γ, M, H0, rs, fn⟩ := h
  refine ⟨Γ, M, H0, rs, Fin.bind fn fun d v H1 M1 _ e1 r1 f1 => ?_⟩
  refine ⟨Γ, M1, H0, rs.ext e1, Fin.bind f1 fun d2 v2 H2 M2 _ e2 r2 f2 => ?_⟩
  have rs2 := (rs.ext e1).ext e2
  cases q : f d d2 with
  | ok z =>
    rw [q] at f2
    exact hd v v2 d d2 M2 H2 Q z rs2.ms rs2.nt (r1.mono e2.mm) r2 q f2
  | exc c => exact absurd q (hx d d2 c)
  | bad =>
    rw [q] at f2
    exact f2.elim
theorem e_op {op : Operator} {r : R2} {f : D → D → Out D} {a b : Expr} {ma mb : Env → Out D} {pos : Pos} (ho : OpR X (binaryOp op) r) (hd : OpD X.K X.mg T r f) (hx : noX f) (ha : PEm X T E a ma) (hb : PEm X T E b mb) : PEm X T E (.BinOp a op b pos) (m2 f ma mb) :=
  weakE (pe_op ho ha hb) fun _ _ _ h => tOp_of hd hx h
theorem e_cmp {op : CmpOp} {r : R2} {f : D → D → Out D} {a b : Expr} {ma mb : Env → Out D} {pos : Pos} (ho : OpR X (compareOp op) r) (hd : OpD X.K X.mg T r f) (hx : noX f) (ha : PEm X T E a ma) (hb : PEm X T E b mb) (hm : behindInMarks op b = false) : PEm X T E (.Compare a [op] [b] pos) (m2 f ma mb) :=
  weakE (pe_cmpR ho ha hb hm) fun _ _ _ h => tOp_of hd hx h
/-- a truth -/
def toB : D → Out Bool
  | .bl b => .ok b
  | _ => .bad
def mT (a : Env → Out D) : Env → Out Bool := fun Γ => (a Γ).bind toB
theorem tB_of {a : Env → Out D} {σ : L2.St} {H : Hp} {Q : Bool → Hp → Prop} (h : ttOf K mg T E (mT a) σ H Q) : tOf K mg T E a σ H (fun x H' => ∃ k, x = .bl k ∧ Q k H') := by
  obtain ⟨Γ, M, H0, rs, fn⟩ := h
  refine ⟨Γ, M, H0, rs, ?_⟩
  unfold mT at fn
  cases q : a Γ with
  | ok d =>
    rw [q] at fn
    cases d with
    | bl b =>
      intro v H' M' e r
      cases r
      exact ⟨b, rfl, fn H' M' e⟩
    | _ => exact fn.elim
  | exc c =>
    rw [q] at fn
    exact fn
  | bad =>
    rw [q] at fn
    exact fn.elim
theorem t_cmp {op : CmpOp} {r : R2} {f : D → D → Out D} {a b : Expr} {ma mb : Env → Out D} {pos : Pos} (ho : OpR X (compareOp op) r) (hd : OpD X.K X.mg T r f) (hx : noX f) (ha : PEm X T E a ma) (hb : PEm X T E b mb) (hm : behindInMarks op b = false) : PTm X T E (.Compare a [op] [b] pos) (mT (m2 f ma mb)) :=
  weakT (pt_cmpR ho ha hb hm) fun _ _ _ h => tOp_of hd hx (tB_of h)
theorem t_val {e : Expr} {m : Env → Out D} (h : PEm X T E e m) (he : ∀ whole, isTrue e X.env whole = (do let v ← whole; standAt e.pos; holding [v] (truthy v)) := by intro _; rfl) : PTm X T E e (mT m) :=
  weakT (pt_val h he) fun _ _ _ h => tB_of h

/-! ### and, or, not, if -/
def mAnd (a b : Env → Out D) : Env → Out D := fun Γ => (a Γ).bind fun x => match x with
  | .bl true => b Γ
  | .bl false => .ok (.bl false)
  | _ => .bad
def mOr (a b : Env → Out D) : Env → Out D := fun Γ => (a Γ).bind fun x => match x with
  | .bl true => .ok (.bl true)
  | .bl false => b Γ
  | _ => .bad
def dNot : D → Out D
  | .bl b => .ok (.bl (!b))
  | _ => .bad
def tAndM (a b : Env → Out Bool) : Env → Out Bool := fun Γ => (a Γ).bind fun x => if x = true then b Γ else .ok false
def tOrM (a b : Env → Out Bool) : Env → Out Bool := fun Γ => (a Γ).bind fun x => if x = true then .ok true else b Γ
def tNotM (a : Env → Out Bool) : Env → Out Bool := fun Γ => (a Γ).bind fun x => .ok (!x)
def mIf (c : Env → Out Bool) (a b : Env → Out D) : Env → Out D := fun Γ => (c Γ).bind fun x => if x = true then a Γ else b Γ
theorem FinT.bindT {Q Q' : Bool → Hp → Prop} {E : XK} {o : Out Bool} {f : Bool → Out Bool} (h : FinT mg T M H Q E (o.bind f))
    (k : ∀ d H1 M1, o = .ok d → Ext T M H M1 H1 → FinT mg T M1 H1 Q E (f d) → Q' d H1) : FinT mg T M H Q' E o := by
  cases o with
  | ok d => exact fun H1 M1 e => k d H1 M1 rfl e (FinT.up h e)
  | exc c => exact h
  | bad => exact h
theorem FinT.bindE {Q : VK} {Q' : Bool → Hp → Prop} {E : XK} {o : Out Bool} {f : Bool → Out D} (h : Fin K mg T M H Q E (o.bind f))
    (k : ∀ d H1 M1, o = .ok d → Ext T M H M1 H1 → Fin K mg T M1 H1 Q E (f d) → Q' d H1) : FinT mg T M H Q' E o := by
  cases o with
  | ok d => exact fun H1 M1 e => k d H1 M1 rfl e (Fin.up h e)
  | exc c => exact h
  | bad => exact h
theorem FinA.bindE {Q : VK} {Q' : List V → Hp → Prop} {E : XK} {o : Out (List D)} {f : List D → Out D} (h : Fin K mg T M H Q E (o.bind f))
    (k : ∀ d v H1 M1, o = .ok d → Ext T M H M1 H1 → RpL K mg M1 v d → Fin K mg T M1 H1 Q E (f d) → Q' v H1) : FinA K mg T M H Q' E o := by
  cases o with
  | ok d => exact fun v H1 M1 e r => k d v H1 M1 rfl e r (Fin.up h e)
  | exc c => exact h
  | bad => exact h
theorem Fin.bindA {Q : List V → Hp → Prop} {Q' : VK} {E : XK} {o : Out D} {f : D → Out (List D)} (h : FinA K mg T M H Q E (o.bind f))
    (k : ∀ d v H1 M1, o = .ok d → Ext T M H M1 H1 → Rp K mg M1 v d → FinA K mg T M1 H1 Q E (f d) → Q' v H1) : Fin K mg T M H Q' E o := by
  cases o with
  | ok d => exact fun v H1 M1 e r => k d v H1 M1 rfl e r (FinA.up h e)
  | exc c => exact h
  | bad => exact h
theorem FinA.bindA {Q Q' : List V → Hp → Prop} {E : XK} {o : Out (List D)} {f : List D → Out (List D)} (h : FinA K mg T M H Q E (o.bind f))
    (k : ∀ d v H1 M1, o = .ok d → Ext T M H M1 H1 → RpL K mg M1 v d → FinA K mg T M1 H1 Q E (f d) → Q' v H1) : FinA K mg T M H Q' E o := by
  cases o with
  | ok d => exact fun v H1 M1 e r => k d v H1 M1 rfl e r (FinA.up h e)
  | exc c => exact h
  | bad => exact h
section
variable {a b c : Expr} {rest : List Expr} {pos : Pos} {ma mb : Env → Out D} {ta tb tc : Env → Out Bool}
theorem e_one {op} (h : PEm X T E a ma) : PEm X T E (.BoolOp op [a] pos) ma := pe_one h
theorem e_and (ha : PEm X T E a ma) (hb : PEm X T E (.BoolOp .And (b :: rest) pos) mb) : PEm X T E (.BoolOp .And (a :: b :: rest) pos) (mAnd ma mb) := by
  refine weakE (pe_and ha hb) fun σ H Q h => ?_
  obtain ⟨Γ, M, H0, rs, fn⟩ := h
  refine ⟨Γ, M, H0, rs, Fin.bind fn fun d v H1 M1 _ e1 r1 f1 => ?_⟩
  cases r1 with
  | bl b =>
    refine ⟨b, rfl, ?_⟩
    cases b with
    | true => exact ⟨Γ, M1, H0, rs.ext e1, f1⟩
    | false => exact f1 _ _ _ (rs.ext e1).ext0 (.bl false)
  | _ => exact f1.elim
theorem e_or (ha : PEm X T E a ma) (hb : PEm X T E (.BoolOp .Or (b :: rest) pos) mb) : PEm X T E (.BoolOp .Or (a :: b :: rest) pos) (mOr ma mb) := by
  refine weakE (pe_or ha hb) fun σ H Q h => ?_
  obtain ⟨Γ, M, H0, rs, fn⟩ := h
  refine ⟨Γ, M, H0, rs, Fin.bind fn fun d v H1 M1 _ e1 r1 f1 => ?_⟩
  cases r1 with
  | bl b =>
    refine ⟨b, rfl, ?_⟩
    cases b with
    | false => exact ⟨Γ, M1, H0, rs.ext e1, f1⟩
    | true => exact f1 _ _ _ (rs.ext e1).ext0 (.bl true)
  | _ => exact f1.elim
theorem e_not (ha : PEm X T E a ma) : PEm X T E (.UnaryOp .Not a pos) (m1 dNot ma) := by
  refine weakE (pe_not ha) fun σ H Q h => ?_
  obtain ⟨Γ, M, H0, rs, fn⟩ := h
  refine ⟨Γ, M, H0, rs, Fin.bind fn fun d v H1 M1 _ e1 r1 f1 => ?_⟩
  cases r1 with
  | bl b => exact ⟨b, rfl, f1 _ _ _ (rs.ext e1).ext0 (.bl _)⟩
  | _ => exact f1.elim
theorem w_and1 (ha : PTm X T E a ta) : PWm X T E (.BoolOp .And [a] pos) ta := pw_and1 ha
theorem w_or1 (ha : PTm X T E a ta) : PWm X T E (.BoolOp .Or [a] pos) ta := pw_or1 ha
theorem w_and (ha : PTm X T E a ta) (hb : PWm X T E (.BoolOp .And (b :: rest) pos) tb) : PWm X T E (.BoolOp .And (a :: b :: rest) pos) (tAndM ta tb) := by
  refine weakW (pw_and ha hb) fun σ H Q h => ?_
  obtain ⟨Γ, M, H0, rs, fn⟩ := h
  refine ⟨Γ, M, H0, rs, FinT.bindT fn fun d H1 M1 _ e1 f1 => ?_⟩
  cases d with
  | true => exact ⟨Γ, M1, H0, rs.ext e1, f1⟩
  | false => exact f1 _ _ (rs.ext e1).ext0
theorem w_or (ha : PTm X T E a ta) (hb : PWm X T E (.BoolOp .Or (b :: rest) pos) tb) : PWm X T E (.BoolOp .Or (a :: b :: rest) pos) (tOrM ta tb) := by
  refine weakW (pw_or ha hb) fun σ H Q h => ?_
  obtain ⟨Γ, M, H0, rs, fn⟩ := h
  refine ⟨Γ, M, H0, rs, FinT.bindT fn fun d H1 M1 _ e1 f1 => ?_⟩
  cases d with
  | false => exact ⟨Γ, M1, H0, rs.ext e1, f1⟩
  | true => exact f1 _ _ (rs.ext e1).ext0
theorem t_w (h : PWm X T E a ta) : PTm X T E a ta := h.pt
theorem t_not (ha : PTm X T E a ta) : PTm X T E (.UnaryOp .Not a pos) (tNotM ta) := by
  refine weakT (pt_not ha) fun σ H Q h => ?_
  obtain ⟨Γ, M, H0, rs, fn⟩ := h
  exact ⟨Γ, M, H0, rs, FinT.bindT fn fun d H1 M1 _ e1 f1 => f1 _ _ (rs.ext e1).ext0⟩
theorem e_if (hc : PTm X T E c tc) (ha : PEm X T E a ma) (hb : PEm X T E b mb) : PEm X T E (.IfExp c a b pos) (mIf tc ma mb) := by
  refine weakE (pe_ifExp hc ha hb) fun σ H Q h => ?_
  obtain ⟨Γ, M, H0, rs, fn⟩ := h
  refine ⟨Γ, M, H0, rs, FinT.bindE fn fun d H1 M1 _ e1 f1 => ?_⟩
  cases d with
  | true => exact ⟨Γ, M1, H0, rs.ext e1, f1⟩
  | false => exact ⟨Γ, M1, H0, rs.ext e1, f1⟩
end

/-! ### arguments, lists, tuples, built-ins -/
theorem a_nil : PAm X T E [] mNil := by
  refine weakA pa_nil fun σ H Q h => ?_
  obtain ⟨Γ, M, H0, rs, fn⟩ := h
  exact fn [] H M rs.ext0 .nil
theorem a_cons {e : Expr} {es : List Expr} {m : Env → Out D} {ms : Env → Out (List D)} (ha : PEm X T E e m) (hr : PAm X T E es ms) (hs : starEach (e :: es) X.env = (false, eval e X.env) :: starEach es X.env := by rfl) : PAm X T E (e :: es) (mCons m ms) := by
  refine weakA (pa_cons ha hr hs) fun σ H Q h => ?_
  obtain ⟨Γ, M, H0, rs, fn⟩ := h
  refine ⟨Γ, M, H0, rs, Fin.bindA fn fun d v H1 M1 _ e1 r1 f1 => ?_⟩
  exact ⟨Γ, M1, H0, rs.ext e1, FinA.bindA f1 fun d2 v2 H2 M2 _ e2 r2 f2 => f2 _ _ _ ((rs.ext e1).ext e2).ext0 (.cons (r1.mono e2.mm) r2)⟩
def LIM : Nat := 16777216
def dTup (xs : List D) : Out D := if xs.length ≤ LIM then .ok (.tup xs) else .bad
def dLst (xs : List D) : Out D := if xs.length ≤ LIM then .ok (.lst xs) else .bad
theorem lim_line {n : Nat} (h : n ≤ LIM) : n ≤ sizeLine := by
  rw [sizeLine_eq]
  exact h
theorem e_tup {es : List Expr} {x1} {pos : Pos} {ms : Env → Out (List D)} (h : PAm X T E es ms) : PEm X T E (.Tuple es x1 pos) (mN dTup ms) := by
  refine weakE (pe_tup h) fun σ H Q h => ?_
  obtain ⟨Γ, M, H0, rs, fn⟩ := h
  refine ⟨Γ, M, H0, rs, FinA.bindE fn fun d v H1 M1 _ e1 r1 f1 => ?_⟩
  unfold dTup at f1
  have rs1 := rs.ext e1
  by_cases hl : d.length ≤ LIM
  · rw [if_pos hl] at f1
    refine ⟨by rw [r1.length]; exact lim_line hl, fun p hp => f1 _ _ _ (Ext.new rs1.ms rs1.nt hp True.intro) (.tup (SqT.of upd_same) (r1.mono ?_))⟩
    exact (Ext.new (T := T) rs1.ms rs1.nt hp (o := .tup v) True.intro).mm
  · rw [if_neg hl] at f1
    exact f1.elim
theorem e_lst {es : List Expr} {pos : Pos} {ms : Env → Out (List D)} (h : PAm X T E es ms) : PEm X T E (.List es pos) (mN dLst ms) := by
  refine weakE (pe_lst h) fun σ H Q h => ?_
  obtain ⟨Γ, M, H0, rs, fn⟩ := h
  refine ⟨Γ, M, H0, rs, FinA.bindE fn fun d v H1 M1 _ e1 r1 f1 => ?_⟩
  unfold dLst at f1
  have rs1 := rs.ext e1
  by_cases hl : d.length ≤ LIM
  · rw [if_pos hl] at f1
    refine ⟨by rw [r1.length]; exact lim_line hl, fun p hp => f1 _ _ _ (Ext.new rs1.ms rs1.nt hp True.intro) (.lst upd_same (r1.mono ?_))⟩
    exact (Ext.new (T := T) rs1.ms rs1.nt hp (o := .lst v) True.intro).mm
  · rw [if_neg hl] at f1
    exact f1.elim
/-- a built-in's rule and its data -/
def CallD (K : PySem.W.Frag) (mg : Str → Option Value) (T : Tb) (r : List V → Hp → VK → Prop) (f : List D → Out D) : Prop :=
  ∀ xs ds M H Q d, Same M H → (NoT T M H) → RpL K mg M xs ds → f ds = .ok d → (∀ v H' M', Ext T M H M' H' → Rp K mg M' v d → Q v H') → r xs H Q
def noXN (f : List D → Out D) : Prop := ∀ x c, f x ≠ .exc c
theorem tCB_of {r : List V → Hp → VK → Prop} {f : List D → Out D} {ms : Env → Out (List D)} (hd : CallD K mg T r f) (hx : noXN f) {σ : L2.St} {H : Hp} {Q : VK} (h : tOf K mg T E (mN f ms) σ H Q) : tCB r (taOf K mg T E ms) σ H Q := by
  obtain ⟨Γ, M, H0, rs, fn⟩ := h
  refine ⟨Γ, M, H0, rs, FinA.bindE fn fun d v H1 M1 _ e1 r1 f1 => ?_⟩
  have rs1 := rs.ext e1
  cases q : f d with
  | ok z =>
    rw [q] at f1
    exact hd v d M1 H1 Q z rs1.ms rs1.nt r1 q f1
  | exc c => exact absurd q (hx d c)
  | bad =>
    rw [q] at f1
    exact f1.elim
theorem e_callB {id : String} {x : Str} {p pos : Pos} {e : Expr} {es : List Expr} {r : List V → Hp → VK → Prop} {f : List D → Out D} {ms : Env → Out (List D)} (hc : CallR X (.builtin id) r) (hd : CallD X.K X.mg T r f) (hx : noXN f) (hg : Gl X x) (hm : X.mg x = none) (hv : bootBuiltins x = some (.builtin id)) (ha : PAm X T E (e :: es) ms)
    (hn : x ≠ "__name__" := by decide) (hdb : (x == ("__debug__" : Str)) = false := by decide) (he : starEach (e :: es) X.env = (false, eval e X.env) :: starEach es X.env := by rfl) (hpl : (backTo pos (starEach es X.env)).any (·.1) = false := by rfl) :
    PEm X T E (.Call (.Name x p) (e :: es) [] pos) (mN f ms) := weakE (pe_callB hc hg hm hv ha hn hdb he hpl) fun _ _ _ h => tCB_of hd hx h
theorem e_callTy {id : String} {x : Str} {p pos : Pos} {e : Expr} {es : List Expr} {r : List V → Hp → VK → Prop} {f : List D → Out D} {ms : Env → Out (List D)} (hc : CallR X (.type id) r) (hd : CallD X.K X.mg T r f) (hx : noXN f) (hg : Gl X x) (hm : X.mg x = none) (hv : bootBuiltins x = some (.type id)) (ha : PAm X T E (e :: es) ms)
    (hn : x ≠ "__name__" := by decide) (hdb : (x == ("__debug__" : Str)) = false := by decide) (he : starEach (e :: es) X.env = (false, eval e X.env) :: starEach es X.env := by rfl) (hpl : (backTo pos (starEach es X.env)).any (·.1) = false := by rfl) :
    PEm X T E (.Call (.Name x p) (e :: es) [] pos) (mN f ms) := weakE (pe_callTy hc hg hm hv ha hn hdb he hpl) fun _ _ _ h => tCB_of hd hx h
end
end FL
set_option Elab.async false
set_option linter.all false
set_option maxRecDepth 100000
set_option maxHeartbeats 2000000
namespace FL
open PySem PySem.Spec PyProof.Rows L2 LamX
variable {K : PySem.W.Frag} {mg : Str → Option Value} {T : Tb} {H0 M0 M M' M1 M2 H H' H1 H2 : Hp} {Γ Γ' : Env} {σ σ' : L2.St} {E : XK} {X : Cx}

/-! ### slots -/
theorem Rs.set (r : Rs K mg T H0 M H Γ σ) (i : Nat) {v : V} {d : D} (h : Rp K mg M v d) : Rs K mg T H0 M H (Γ.set i (some (.dat d))) (σ.set i (some v)) :=
  r.put i (s := .dat d) h fun j t w a _ _ _ o _ => o
def wipeE (Γ : Env) : List Nat → Env
  | [] => Γ
  | v :: vs => (wipeE Γ vs).set v none
theorem Rs.wipe1 (r : Rs K mg T H0 M H Γ σ) (i : Nat) : Rs K mg T H0 M H (Γ.set i none) (σ.set i none) where
  ms := r.ms
  nt := r.nt
  tb := r.tb
  len := by rw [List.length_set, List.length_set, r.len]
  slt := fun j t q => by
    rcases set_get q with ⟨_, _, z⟩ | ⟨hj, q⟩
    · cases z
    · rw [List.getElem?_set_ne hj]
      exact r.slt j t q
  dj := fun j k t u w x a q1 q2 q3 q4 o1 o2 => by
    rcases set_get q1 with ⟨_, _, z⟩ | ⟨hj, q1⟩
    · cases z
    rcases set_get q2 with ⟨_, _, z⟩ | ⟨hk, q2⟩
    · cases z
    rw [List.getElem?_set_ne hj] at q3
    rw [List.getElem?_set_ne hk] at q4
    exact r.dj j k t u w x a q1 q2 q3 q4 o1 o2
theorem Rs.wipe (r : Rs K mg T H0 M H Γ σ) : ∀ vs : List Nat, Rs K mg T H0 M H (wipeE Γ vs) (L2.wipe σ vs)
  | [] => r
  | v :: vs => (Rs.wipe r vs).wipe1 v
/-- the own list in slot i, changed to ws -/
theorem tabs_upd {a : Addr} {vs ws : List V} (h : Tabs T H) (ha : H a = some (.lst vs)) : Tabs T (upd H a (.lst ws)) := fun p hp => by
  obtain ⟨ps, h1, h2, h3⟩ := h p hp
  refine ⟨ps, ?_, h2, fun pos cv hc => ?_⟩
  · rw [upd_ne (ne_of h1 ha (fun z => by cases z))]
    exact h1
  · obtain ⟨c, e, hc⟩ := h3 pos cv hc
    refine ⟨c, e, ?_⟩
    rw [upd_ne (ne_of hc ha (fun z => by unfold CodeO at z; cases z))]
    exact hc
theorem memo_lst {a x C dx : Addr} {vs : List V} {fs : List (Str × V)} (h : upd M a (.lst vs) x = some (.ins C dx fs)) : M x = some (.ins C dx fs) := by
  by_cases q : x = a
  · subst q
    rw [upd_same] at h
    cases h
  · rw [upd_ne q] at h
    exact h
theorem Ext.mut {a : Addr} {vs ws : List V} (e : Ext T M0 H0 M H) (hm : M a = none) (ha : H a = some (.lst vs)) (hf : Fr H0 a) : Ext T M0 H0 M (upd H a (.lst ws)) where
  kp := fun b o hb ho => by
    by_cases q : b = a
    · subst q
      obtain ⟨ps, z⟩ := hf o hb
      subst z
      exact ho.elim
    · rw [upd_ne q]
      exact e.kp b o hb ho
  ke := fun b φ hb => by
    by_cases q : b = a
    · subst q
      obtain ⟨ps, z⟩ := hf _ hb
      cases z
    · rw [upd_ne q]
      exact e.ke b φ hb
  tb := fun h => tabs_upd (e.tb h) ha
  mm := e.mm
  ms := fun b o hb => by
    have q : b ≠ a := fun z => by
      rw [z, hm] at hb
      cases hb
    rw [upd_ne q]
    exact e.ms b o hb
  nt := ⟨e.nt.kd, e.nt.pl.upd1 ha (fun _ z => by cases z) (fun _ _ z => by cases z) (fun _ z => by cases z)⟩
  nw := e.nw
  nm := e.nm
theorem Rs.mut (r : Rs K mg T H0 M H Γ σ) {i : Nat} {a : Addr} {ds es : List D} {vs ws : List V} (hi : Γ[i]? = some (some (.own ds))) (hs : σ[i]? = some (some (.ref a))) (ha : H a = some (.lst vs)) (hm : M a = none) (hf : Fr H0 a) (hw : RpL K mg M ws es) :
    Rs K mg T H0 M (upd H a (.lst ws)) (Γ.set i (some (.own es))) σ :=
  r.chg (s := .own ds) (s' := .own es) hi hs rfl ⟨r.nt.kd, r.nt.pl.upd1 ha (fun _ z => by cases z) (fun _ _ z => by cases z) (fun _ z => by cases z)⟩ (tabs_upd r.tb ha) ⟨a, ws, rfl, upd_same, hm, hf, hw⟩ fun b o => o
theorem Ext.fresh {p : Addr} (e : Ext T M0 H0 M H) (hp : H p = none) : Fr H0 p := fun u hu => by
  rcases kinds u with k | ⟨φ, rfl⟩ | k
  · have z := e.kp p u hu k
    rw [hp] at z
    cases z
  · obtain ⟨φ', z⟩ := e.ke' p φ hu
    rw [hp] at z
    cases z
  · exact k
/-- a new list of its own for slot i -/
theorem Rs.newOwn (r : Rs K mg T H0 M H Γ σ) (e : Ext T M0 H0 M H) (i : Nat) {p : Addr} {vs : List V} {ds : List D} (hp : H p = none) (h : RpL K mg M vs ds) :
    Ext T M0 H0 M (upd H p (.lst vs)) ∧ Rs K mg T H0 M (upd H p (.lst vs)) (Γ.set i (some (.own ds))) (σ.set i (some (.ref p))) := by
  have g : Ext T M H M (upd H p (.lst vs)) := Ext.grow r.ms r.nt (same_upd hp)
  have mp : M p = none := by
    cases q : M p with
    | none => rfl
    | some u =>
      have z := r.ms p u q
      rw [hp] at z
      cases z
  refine ⟨e.trans g, (r.ext g).put i (s := .own ds) ⟨p, vs, rfl, upd_same, mp, e.fresh hp, h⟩ fun j t w a hj q1 q2 o1 o2 => ?_⟩
  have o1 : V.ref p = .ref a := o1
  cases o1
  obtain ⟨w', w1, w2⟩ := r.slt j t q1
  rw [q2] at w1
  cases w1
  exact r.no_new hp q1 q2 (o2.back g w2)
/-- M grows by what slot i alone holds: it is shared from now on -/
theorem SlOk.share {v : V} {s : Sl} {a : Addr} {o : HO} (h : SlOk K mg H0 M H v s) (n : ¬ Owns H v s a) (hm : M a = none) (nr : ∀ p fs C, s = .rob C fs → v = .ref p → ¬ ObOwn H p fs a) (nm : ∀ b, MemoA (upd M a o) b → MemoA M b) : SlOk K mg H0 (upd M a o) H v s := by
  have mm : Same M (upd M a o) := same_upd hm
  have fs_ok : ∀ {vs : List (Str × V)} {fs : Ob}, FsOk K mg M H vs fs → ¬ FsOwn vs fs a → FsOk K mg (upd M a o) H vs fs := fun {vs fs} q => by
    induction q with
    | nil => exact fun _ => .nil
    | @cons x v f vs fs h1 h2 ih =>
      intro n
      refine .cons ?_ (ih fun z => n (.inr z))
      cases f with
      | dat d => exact Rp.mono mm h1
      | own ds =>
        obtain ⟨b, us, k1, k2, k3, k4⟩ := h1
        exact ⟨b, us, k1, k2, by rw [upd_ne (fun z => n (.inl (by subst z; exact k1)))]; exact k3, k4.mono mm⟩
  have ob_ok : ∀ {p : Addr} {C : Str} {fs : Ob}, ObAt K mg M H p C fs → ¬ ObOwn H p fs a → ObAt K mg (upd M a o) H p C fs := fun {p C fs} q n => by
    obtain ⟨cl, dx, vs, h1, h2, h3, h4, h5⟩ := q
    exact ⟨cl, dx, vs, h1, h2, by rw [upd_ne (fun z => n (.inl z.symm))]; exact h3, fs_ok h4 fun z => n (.inr ⟨_, _, _, h2, z⟩), h5⟩
  cases s with
  | dat d => exact Rp.mono mm h
  | own ds =>
    obtain ⟨b, vs, h1, h2, h3, hf, h4⟩ := h
    exact ⟨b, vs, h1, h2, by rw [upd_ne (fun z => n (by subst z; exact h1))]; exact h3, hf, h4.mono mm⟩
  | dct ds =>
    obtain ⟨b, vs, h1, h2, h3, hf, h4⟩ := h
    exact ⟨b, vs, h1, h2, by rw [upd_ne (fun z => n (by subst z; exact h1))]; exact h3, hf, h4.mono mm⟩
  | dco kvs =>
    obtain ⟨b, h1, ⟨xs, k1, k2, k3, k4, k5⟩, h3⟩ := h
    exact ⟨b, h1, ⟨xs, k1, by rw [upd_ne (fun z => n (by subst z; exact h1))]; exact k2, fun z => k3 (nm _ z), k4, fun x hx => ⟨same_sqT mm (k5 x hx).1, (k5 x hx).2⟩⟩, h3⟩
  | obj C q fs =>
    obtain ⟨p, h1, h2, h3, h4⟩ := h
    exact ⟨p, h1, ob_ok h2 (fun z => n ⟨p, h1, z⟩), h3, h4⟩
  | rob C fs =>
    obtain ⟨p, h1, h2, h3⟩ := h
    exact ⟨p, h1, ob_ok h2 (nr p fs C rfl h1), h3⟩
/-- the own list of slot i is shared from now on -/
theorem Rs.freeze (r : Rs K mg T H0 M H Γ σ) (e : Ext T M0 H0 M H) {i : Nat} {ds : List D} (hi : Γ[i]? = some (some (.own ds))) :
    ∃ M', Ext T M0 H0 M' H ∧ Rs K mg T H0 M' H (Γ.set i (some (.dat (.lst ds)))) σ := by
  obtain ⟨a, vs, h1, h2, h3, h4, h5⟩ := r.own i ds hi
  have mm : Same M (upd M a (.lst vs)) := same_upd h3
  have ms : Same (upd M a (.lst vs)) H := fun b o hb => by
    by_cases q : b = a
    · subst q
      rw [upd_same] at hb
      rw [← hb]
      exact h2
    · rw [upd_ne q] at hb
      exact r.ms b o hb
  have nt : NoT T (upd M a (.lst vs)) H := ⟨fun b o hb => by
    by_cases q : b = a
    · subst q
      rw [upd_same] at hb
      cases hb
      exact True.intro
    · rw [upd_ne q] at hb
      exact r.nt.kd b o hb, r.nt.pl.monoM fun b C dx fs hb => by
    by_cases q : b = a
    · subst q
      rw [upd_same] at hb
      cases hb
    · rw [upd_ne q] at hb
      exact hb⟩
  refine ⟨upd M a (.lst vs), ⟨e.kp, e.ke, e.tb, e.mm.trans mm, ms, nt, fun b o hb => ?_, fun b hb => e.nm b (hb.of fun x C dx fs hx => memo_lst hx)⟩, ⟨ms, nt, r.tb, by rw [List.length_set, r.len], fun j t q => ?_, fun j k t u w x b q1 q2 q3 q4 o1 o2 => ?_⟩⟩
  · by_cases q : b = a
    · subst q
      exact .inr h4
    · rw [upd_ne q] at hb
      exact e.nw b o hb
  · rcases set_get q with ⟨rfl, _, z⟩ | ⟨hj, q⟩
    · cases z
      exact ⟨.ref a, h1, .lst upd_same (h5.mono mm)⟩
    · obtain ⟨w, w1, w2⟩ := r.slt j t q
      refine ⟨w, w1, w2.share (fun z => hj (r.dj i j _ t _ w a hi q h1 w1 rfl z)) h3 (fun p fs C z1 z2 z3 => ?_) fun b hb => hb.of fun x C dx fs hx => memo_lst hx⟩
      subst z1
      obtain ⟨p', k1, k2, k3⟩ := w2
      rw [z2] at k1
      cases k1
      exact h4.ne (k3 a z3) rfl
  · have nj : ∀ (j : Nat) t w, (Γ.set i (some (.dat (.lst ds))))[j]? = some (some t) → Owns H w t b → Γ[j]? = some (some t) := fun j t w q o => by
      rcases set_get q with ⟨_, _, z⟩ | ⟨hj, q⟩
      · cases z
        exact o.elim
      · exact q
    exact r.dj j k t u w x b (nj j t w q1 o1) (nj k u x q2 o2) q3 q4 o1 o2

/-! ### statements -/
inductive SO where
  | nx (Γ : Env) | rt (d : D) | bk (Γ : Env) | ct (Γ : Env) | exc (c : Str) | bad
def FinS (K : PySem.W.Frag) (mg : Str → Option Value) (T : Tb) (M0 H0 : Hp) (Dn : Ends) (E : XK) : SO → Prop
  | .nx Γ => ∀ σ H M, Ext T M0 H0 M H → Rs K mg T H0 M H Γ σ → Dn.nx σ H
  | .rt d => ∀ v H M, Ext T M0 H0 M H → Rp K mg M v d → Dn.rt v H
  | .bk Γ => ∀ σ H M, Ext T M0 H0 M H → Rs K mg T H0 M H Γ σ → Dn.bk σ H
  | .ct Γ => ∀ σ H M, Ext T M0 H0 M H → Rs K mg T H0 M H Γ σ → Dn.ct σ H
  | .exc c => ∀ C H M, Ext T M0 H0 M H → mg c = some (.ref C) → E (.ref C) none H
  | .bad => False
def sOf (K : PySem.W.Frag) (mg : Str → Option Value) (T : Tb) (E : XK) (m : Env → SO) : TS := fun Dn σ H => ∃ Γ M M0 H0, Ext T M0 H0 M H ∧ Rs K mg T H0 M H Γ σ ∧ FinS K mg T M0 H0 Dn E (m Γ)
abbrev PSm (X : Cx) (T : Tb) (E : XK) (st : Stmt) (m : Env → SO) : Prop := PS X st (sOf X.K X.mg T E m)
abbrev PSsm (X : Cx) (T : Tb) (E : XK) (st : List Stmt) (m : Env → SO) : Prop := PSs X st (sOf X.K X.mg T E m)
def SO.ofO (o : Out D) (f : D → SO) : SO := match o with
  | .ok d => f d
  | .exc c => .exc c
  | .bad => .bad
def SO.ofB (o : Out Bool) (f : Bool → SO) : SO := match o with
  | .ok d => f d
  | .exc c => .exc c
  | .bad => .bad
def sNext : Env → SO := .nx
def sSeq (a b : Env → SO) : Env → SO := fun Γ => match a Γ with
  | .nx Γ' => b Γ'
  | .rt d => .rt d
  | .bk Γ' => .bk Γ'
  | .ct Γ' => .ct Γ'
  | .exc c => .exc c
  | .bad => .bad
def sRet (m : Env → Out D) : Env → SO := fun Γ => SO.ofO (m Γ) .rt
def sDrop (m : Env → Out D) : Env → SO := fun Γ => SO.ofO (m Γ) fun _ => .nx Γ
def sIf (c : Env → Out Bool) (a b : Env → SO) : Env → SO := fun Γ => SO.ofB (c Γ) fun x => if x = true then a Γ else b Γ
def sSet (i : Nat) (m : Env → Out D) : Env → SO := fun Γ => SO.ofO (m Γ) fun d => .nx (Γ.set i (some (.dat d)))
/-- from an expression's reading on -/
theorem FinS.ofO {Dn : Ends} {Q' : VK} {o : Out D} {f : D → SO} (e0 : Ext T M0 H0 M H) (h : FinS K mg T M0 H0 Dn E (SO.ofO o f))
    (k : ∀ d v H1 M1, Ext T M0 H0 M1 H1 → Ext T M H M1 H1 → Rp K mg M1 v d → FinS K mg T M0 H0 Dn E (f d) → Q' v H1) : Fin K mg T M H Q' E o := by
  cases o with
  | ok d => exact fun v H1 M1 e r => k d v H1 M1 (e0.trans e) e r h
  | exc c => exact fun C H' M' e q => h C H' M' (e0.trans e) q
  | bad => exact h
theorem FinS.ofB {Dn : Ends} {Q' : Bool → Hp → Prop} {o : Out Bool} {f : Bool → SO} (e0 : Ext T M0 H0 M H) (h : FinS K mg T M0 H0 Dn E (SO.ofB o f))
    (k : ∀ d H1 M1, Ext T M0 H0 M1 H1 → Ext T M H M1 H1 → FinS K mg T M0 H0 Dn E (f d) → Q' d H1) : FinT mg T M H Q' E o := by
  cases o with
  | ok d => exact fun H1 M1 e => k d H1 M1 (e0.trans e) e h
  | exc c => exact fun C H' M' e q => h C H' M' (e0.trans e) q
  | bad => exact h
theorem ss_nil : PSsm X T E [] sNext := weakSs pss_nil fun Dn σ H h => by
  obtain ⟨Γ, M, M0, H0, e, r, f⟩ := h
  exact f σ H M e r
theorem s_pass {pos} : PSm X T E (.Pass pos) sNext := weakS ps_pass fun Dn σ H h => by
  obtain ⟨Γ, M, M0, H0, e, r, f⟩ := h
  exact f σ H M e r
theorem s_break {pos} : PSm X T E (.Break pos) .bk := weakS ps_break fun Dn σ H h => by
  obtain ⟨Γ, M, M0, H0, e, r, f⟩ := h
  exact f σ H M e r
theorem s_continue {pos} : PSm X T E (.Continue pos) .ct := weakS ps_continue fun Dn σ H h => by
  obtain ⟨Γ, M, M0, H0, e, r, f⟩ := h
  exact f σ H M e r
theorem ss_one {st : Stmt} {m : Env → SO} (h : PSm X T E st m) : PSsm X T E [st] m := pss_one h
theorem ss_cons {st : Stmt} {rest : List Stmt} {m n : Env → SO} (h1 : PSm X T E st m) (h2 : PSsm X T E rest n) : PSsm X T E (st :: rest) (sSeq m n) := weakSs (pss_cons h1 h2) fun Dn σ H h => by
  obtain ⟨Γ, M, M0, H0, e, r, f⟩ := h
  refine ⟨Γ, M, M0, H0, e, r, ?_⟩
  unfold sSeq at f
  cases q : m Γ with
  | nx Γ' =>
    rw [q] at f
    exact fun σ' H' M' e' r' => ⟨Γ', M', M0, H0, e', r', f⟩
  | rt d =>
    rw [q] at f
    exact f
  | bk Γ' =>
    rw [q] at f
    exact f
  | ct Γ' =>
    rw [q] at f
    exact f
  | exc c =>
    rw [q] at f
    exact f
  | bad =>
    rw [q] at f
    exact f
theorem s_ret {e : Expr} {m : Env → Out D} {pos} (h : PEm X T E e m) : PSm X T E (.Return (some e) pos) (sRet m) := weakS (ps_ret h) fun Dn σ H h => by
  obtain ⟨Γ, M, M0, H0, e, r, f⟩ := h
  exact ⟨Γ, M, H0, r, FinS.ofO e f fun d v H1 M1 e1 _ r1 f1 => f1 v H1 M1 e1 r1⟩
theorem s_expr {e : Expr} {m : Env → Out D} {pos : Pos} (h : PEm X T E e m) (hs : swapsWith e none pos.line X.env = pure false := by rfl) : PSm X T E (.Expr e pos) (sDrop m) := weakS (ps_expr h hs) fun Dn σ H h => by
  obtain ⟨Γ, M, M0, H0, e, r, f⟩ := h
  exact ⟨Γ, M, H0, r, FinS.ofO e f fun d v H1 M1 e1 e2 r1 f1 => f1 σ H1 M1 e1 (r.ext e2)⟩
theorem s_if {c : Expr} {a b : List Stmt} {tc : Env → Out Bool} {ma mb : Env → SO} {pos} (hc : PTm X T E c tc) (ha : PSsm X T E a ma) (hb : PSsm X T E b mb) : PSm X T E (.If c a b pos) (sIf tc ma mb) := weakS (ps_if hc ha hb) fun Dn σ H h => by
  obtain ⟨Γ, M, M0, H0, e, r, f⟩ := h
  refine ⟨Γ, M, H0, r, FinS.ofB e f fun d H1 M1 e1 e2 f1 => ?_⟩
  cases d with
  | true => exact ⟨Γ, M1, M0, H0, e1, r.ext e2, f1⟩
  | false => exact ⟨Γ, M1, M0, H0, e1, r.ext e2, f1⟩
theorem tAsg_of {i : Nat} {m : Env → Out D} {Dn : Ends} (h : sOf K mg T E (sSet i m) Dn σ H) : tAsg (tOf K mg T E m) (gName i) Dn σ H := by
  obtain ⟨Γ, M, M0, H0, e, r, f⟩ := h
  exact ⟨Γ, M, H0, r, FinS.ofO e f fun d v H1 M1 e1 e2 r1 f1 => f1 _ H1 M1 e1 ((r.ext e2).set i r1)⟩
theorem s_set {i : Nat} {x : Str} {e : Expr} {m : Env → Out D} {pos pos' : Pos} (hN : X.N.Nodup) (hi : X.N[i]? = some x) (hx : Loc X.env.scope x) (h : PEm X T E e m) (hs : swapsWith e (some (.Name x pos')) pos.line X.env = pure false := by rfl)
    (hf : X.fn x = true ∨ X.env.scope.names.lookup x = some .local := by first | exact .inl rfl | exact .inr rfl) : PSm X T E (.Assign [.Name x pos'] e pos) (sSet i m) :=
  weakS (ps_set hN hi hx h hs hf) fun Dn σ H h => tAsg_of h
end FL
set_option Elab.async false
set_option linter.all false
set_option maxRecDepth 100000
set_option maxHeartbeats 2000000
namespace FL
open PySem PySem.Spec PyProof.Rows L2 LamX
variable {K : PySem.W.Frag} {mg : Str → Option Value} {T : Tb} {H0 M0 M M' M1 M2 H H' H1 H2 : Hp} {Γ Γ' : Env} {σ σ' : L2.St} {E : XK} {X : Cx}

/-! ### lists of one's own -/
def SO.ofA (o : Out (List D)) (f : List D → SO) : SO := match o with
  | .ok d => f d
  | .exc c => .exc c
  | .bad => .bad
theorem FinS.ofA {Dn : Ends} {Q' : List V → Hp → Prop} {o : Out (List D)} {f : List D → SO} (e0 : Ext T M0 H0 M H) (h : FinS K mg T M0 H0 Dn E (SO.ofA o f))
    (k : ∀ d v H1 M1, Ext T M0 H0 M1 H1 → Ext T M H M1 H1 → RpL K mg M1 v d → FinS K mg T M0 H0 Dn E (f d) → Q' v H1) : FinA K mg T M H Q' E o := by
  cases o with
  | ok d => exact fun v H1 M1 e r => k d v H1 M1 (e0.trans e) e r h
  | exc c => exact fun C H' M' e q => h C H' M' (e0.trans e) q
  | bad => exact h
/-- x = [..], to be changed later -/
def sOwn (i : Nat) (ms : Env → Out (List D)) : Env → SO := fun Γ => SO.ofA (ms Γ) fun ds => if ds.length ≤ LIM then .nx (Γ.set i (some (.own ds))) else .bad
theorem s_own {i : Nat} {x : Str} {es : List Expr} {ms : Env → Out (List D)} {pos pos' lpos : Pos} (hN : X.N.Nodup) (hi : X.N[i]? = some x) (hx : Loc X.env.scope x) (h : PAm X T E es ms) (hs : swapsWith (.List es lpos) (some (.Name x pos')) pos.line X.env = pure false := by rfl)
    (hf : X.fn x = true ∨ X.env.scope.names.lookup x = some .local := by first | exact .inl rfl | exact .inr rfl) : PSm X T E (.Assign [.Name x pos'] (.List es lpos) pos) (sOwn i ms) :=
  weakS (ps_set hN hi hx (pe_lst h) hs hf) fun Dn σ H h => by
    obtain ⟨Γ, M, M0, H0, e, r, f⟩ := h
    refine ⟨Γ, M, H0, r, FinS.ofA e f fun d v H1 M1 e1 e2 r1 f1 => ?_⟩
    by_cases hl : d.length ≤ LIM
    · rw [if_pos hl] at f1
      refine ⟨by rw [r1.length]; exact lim_line hl, fun p hp => ?_⟩
      obtain ⟨q1, q2⟩ := (r.ext e2).newOwn e1 i hp r1
      exact f1 _ _ _ q1 q2
    · rw [if_neg hl] at f1
      exact f1.elim
/-- the lists of the slots are are shared from now on -/
def frzE (Γ : Env) (i : Nat) : Env := match Γ[i]? with
  | some (some (.own ds)) => Γ.set i (some (.dat (.lst ds)))
  | _ => Γ
def sFrz (i : Nat) (m : Env → SO) : Env → SO := fun Γ => m (frzE Γ i)
theorem sOf_frz {i : Nat} {m : Env → SO} {Dn : Ends} (h : sOf K mg T E (sFrz i m) Dn σ H) : sOf K mg T E m Dn σ H := by
  obtain ⟨Γ, M, M0, H0, e, r, f⟩ := h
  unfold sFrz frzE at f
  cases q : Γ[i]? with
  | none =>
    rw [q] at f
    exact ⟨Γ, M, M0, H0, e, r, f⟩
  | some o =>
    rw [q] at f
    cases o with
    | none => exact ⟨Γ, M, M0, H0, e, r, f⟩
    | some s =>
      cases s with
      | own ds =>
        obtain ⟨M', q1, q2⟩ := r.freeze e q
        exact ⟨_, M', M0, H0, q1, q2, f⟩
      | _ => exact ⟨Γ, M, M0, H0, e, r, f⟩
theorem s_frz {i : Nat} {m : Env → SO} {st : Stmt} (h : PSm X T E st m) : PSm X T E st (sFrz i m) := weakS h fun _ _ _ h => sOf_frz h
theorem ss_frz {i : Nat} {m : Env → SO} {st : List Stmt} (h : PSsm X T E st m) : PSsm X T E st (sFrz i m) := weakSs h fun _ _ _ h => sOf_frz h
def ownAt (Γ : Env) (i : Nat) : Option (List D) := match Γ[i]? with
  | some (some (.own ds)) => some ds
  | _ => none
theorem ownAt_some {Γ : Env} {i : Nat} {ds : List D} (h : ownAt Γ i = some ds) : Γ[i]? = some (some (.own ds)) := by
  unfold ownAt at h
  cases q : Γ[i]? with
  | none => rw [q] at h; cases h
  | some o =>
    rw [q] at h
    cases o with
    | none => cases h
    | some s =>
      cases s with
      | own es => cases h; rfl
      | _ => cases h
/-- x.append(e) -/
def sApp (i : Nat) (m : Env → Out D) : Env → SO := fun Γ => match ownAt Γ i with
  | none => .bad
  | some ds => SO.ofO (m Γ) fun d => if ds.length < LIM then .nx (Γ.set i (some (.own (ds ++ [d])))) else .bad
theorem s_app {i : Nat} {x : Str} {e : Expr} {m : Env → Out D} {p1 apos cpos pos : Pos} (h : PEm X T E e m) (hN : X.N[i]? = some x := by rfl) (hv : Vis X.env.scope x := by first | exact Or.inl rfl | exact Or.inr (Or.inl rfl) | exact Or.inr (Or.inr rfl))
    (hbase : attributeBase (.Name x p1) "append" X.env (eval (.Name x p1) X.env) = eval (.Name x p1) X.env := by rfl)
    (hfew : ((backTo cpos (starEach [e] X.env)).all (fun x => !x.1) && (backToKw cpos (keywordEach [] X.env)).all (fun x => x.1.isSome) && decide ([e].length + ([] : List Keyword).length + (if ([] : List Keyword).isEmpty then 0 else 1) < 30)) = true := by rfl)
    (hline : (apos.endLine == cpos.line) = true := by rfl) (hs : starEach [e] X.env = (false, eval e X.env) :: starEach [] X.env := by rfl) (hplain : (backTo cpos (starEach [] X.env)).any (·.1) = false := by rfl)
    (hd : (x == ("__debug__" : Str)) = false := by decide) (hcd : (x == ("__classdict__" : Str)) = false := by decide)
    (hsw : swapsWith (.Call (.Attribute (.Name x p1) "append" apos) [e] [] cpos) none pos.line X.env = pure false := by rfl) :
    PSm X T E (.Expr (.Call (.Attribute (.Name x p1) "append" apos) [e] [] cpos) pos) (sApp i m) :=
  weakS (ps_expr (pe_bm PySem.F.plainAttrs_list PySem.F.slot_list_append PySem.F.type_list_append mt_append (pe_var hN hv hd hcd) (pa_cons h pa_nil hs) hbase hfew hline hs hplain) hsw) fun Dn σ H h => by
    obtain ⟨Γ, M, M0, H0, e, r, f⟩ := h
    unfold sApp at f
    cases q : ownAt Γ i with
    | none =>
      rw [q] at f
      exact f.elim
    | some ds =>
      rw [q] at f
      have hq := ownAt_some q
      obtain ⟨a, vs, h1, h2, h3, h4, h5⟩ := r.own i ds hq
      refine ⟨.ref a, h1, .inl ⟨rfl, vs, SqL.of h2⟩, Γ, M, H0, r, FinS.ofO e f fun d v H1 M1 e1 e2 r1 f1 => ?_⟩
      have r2 := r.ext e2
      obtain ⟨a', vs', k1, k2, k3, k4, k5⟩ := r2.own i ds hq
      rw [h1] at k1
      cases k1
      by_cases hl : ds.length < LIM
      · rw [if_pos hl] at f1
        refine ⟨a, vs', v, rfl, rfl, k2, ?_, f1 _ _ _ (e1.mut k3 k2 k4) (r2.mut hq h1 k2 k3 k4 (k5.append (.cons r1 .nil)))⟩
        rw [k5.length, sizeLine_eq]
        exact hl
      · rw [if_neg hl] at f1
        exact f1.elim
/-- x.extend(e), e a list -/
def sExtd (i : Nat) (m : Env → Out D) : Env → SO := fun Γ => match ownAt Γ i with
  | none => .bad
  | some ds => SO.ofO (m Γ) fun d => match d with
    | .lst es => if ds.length + es.length ≤ LIM then .nx (Γ.set i (some (.own (ds ++ es)))) else .bad
    | _ => .bad
theorem s_extd {i : Nat} {x : Str} {e : Expr} {m : Env → Out D} {p1 apos cpos pos : Pos} (h : PEm X T E e m) (hN : X.N[i]? = some x := by rfl) (hv : Vis X.env.scope x := by first | exact Or.inl rfl | exact Or.inr (Or.inl rfl) | exact Or.inr (Or.inr rfl))
    (hbase : attributeBase (.Name x p1) "extend" X.env (eval (.Name x p1) X.env) = eval (.Name x p1) X.env := by rfl)
    (hfew : ((backTo cpos (starEach [e] X.env)).all (fun x => !x.1) && (backToKw cpos (keywordEach [] X.env)).all (fun x => x.1.isSome) && decide ([e].length + ([] : List Keyword).length + (if ([] : List Keyword).isEmpty then 0 else 1) < 30)) = true := by rfl)
    (hline : (apos.endLine == cpos.line) = true := by rfl) (hs : starEach [e] X.env = (false, eval e X.env) :: starEach [] X.env := by rfl) (hplain : (backTo cpos (starEach [] X.env)).any (·.1) = false := by rfl)
    (hd : (x == ("__debug__" : Str)) = false := by decide) (hcd : (x == ("__classdict__" : Str)) = false := by decide)
    (hsw : swapsWith (.Call (.Attribute (.Name x p1) "extend" apos) [e] [] cpos) none pos.line X.env = pure false := by rfl) :
    PSm X T E (.Expr (.Call (.Attribute (.Name x p1) "extend" apos) [e] [] cpos) pos) (sExtd i m) :=
  weakS (ps_expr (pe_bm PySem.F.plainAttrs_list PySem.F.slot_list_extend PySem.F.type_list_extend mt_extend (pe_var hN hv hd hcd) (pa_cons h pa_nil hs) hbase hfew hline hs hplain) hsw) fun Dn σ H h => by
    obtain ⟨Γ, M, M0, H0, e, r, f⟩ := h
    unfold sExtd at f
    cases q : ownAt Γ i with
    | none =>
      rw [q] at f
      exact f.elim
    | some ds =>
      rw [q] at f
      have hq := ownAt_some q
      obtain ⟨a, vs, h1, h2, h3, h4, h5⟩ := r.own i ds hq
      refine ⟨.ref a, h1, .inl ⟨rfl, vs, SqL.of h2⟩, Γ, M, H0, r, FinS.ofO e f fun d v H1 M1 e1 e2 r1 f1 => ?_⟩
      have r2 := r.ext e2
      obtain ⟨a', vs', k1, k2, k3, k4, k5⟩ := r2.own i ds hq
      rw [h1] at k1
      cases k1
      cases r1 with
      | @lst b us es hb rb =>
        have f1 : FinS _ _ _ _ _ _ _ (if ds.length + es.length ≤ LIM then SO.nx (Γ.set i (some (.own (ds ++ es)))) else .bad) := f1
        by_cases hl : ds.length + es.length ≤ LIM
        · rw [if_pos hl] at f1
          refine ⟨a, b, vs', us, rfl, rfl, k2, r2.ms b _ hb, ?_, f1 _ _ _ (e1.mut k3 k2 k4) (r2.mut hq h1 k2 k3 k4 (k5.append rb))⟩
          rw [k5.length, rb.length, sizeLine_eq]
          exact hl
        · rw [if_neg hl] at f1
          exact f1.elim
      | _ => exact f1.elim

/-! ### targets -/
inductive Pt where
  | nm (i : Nat) | tp (is : List Nat)
def setAll : List Nat → List D → Env → Env
  | i :: is, d :: ds, Γ => setAll is ds (Γ.set i (some (.dat d)))
  | _, _, Γ => Γ
def bindP : Pt → D → Env → Option Env
  | .nm i, d, Γ => some (Γ.set i (some (.dat d)))
  | .tp is, .tup ds, Γ => if ds.length = is.length then some (setAll is ds Γ) else none
  | .tp _, _, _ => none
def gsP : List Nat → TGs
  | [] => gNil
  | i :: is => gCons (gName i) (gsP is)
def gP (K : PySem.W.Frag) : Pt → TG
  | .nm i => gName i
  | .tp is => gTup K is.length (gsP is)
def setV : List Nat → List V → L2.St → L2.St
  | i :: is, v :: vs, σ => setV is vs (σ.set i (some v))
  | _, _, σ => σ
theorem Rs.setAll : ∀ {is : List Nat} {ds : List D} {vs : List V} {Γ : Env} {σ : L2.St}, Rs K mg T H0 M H Γ σ → RpL K mg M vs ds → Rs K mg T H0 M H (FL.setAll is ds Γ) (setV is vs σ)
  | [], _, _, _, _, r, .nil => r
  | [], _, _, _, _, r, .cons _ _ => r
  | _ :: _, _, _, _, _, r, .nil => r
  | i :: is, _, _, _, _, r, .cons h t => Rs.setAll (is := is) (r.set i h) t
theorem gsP_of : ∀ {is : List Nat} {vs : List V} {σ : L2.St} {H : Hp} {Q : L2.St → Hp → Prop}, vs.length = is.length → Q (setV is vs σ) H → gsP is vs σ H Q
  | [], [], _, _, _, _, q => ⟨rfl, q⟩
  | [], _ :: _, _, _, _, h, _ => by cases h
  | _ :: _, [], _, _, _, h, _ => by cases h
  | i :: is, v :: vs, _, _, _, h, q => ⟨v, vs, rfl, gsP_of (is := is) (by simpa using h) q⟩
def ptS (p : Pt) (v : V) (vs : List V) (σ : L2.St) : L2.St := match p with
  | .nm i => σ.set i (some v)
  | .tp is => setV is vs σ
theorem gP_of {p : Pt} {v : V} {d : D} {Q : L2.St → Hp → Prop} (r : Rs K mg T H0 M H Γ σ) (h : Rp K mg M v d) (hb : bindP p d Γ = some Γ') (q : ∀ vs, Rs K mg T H0 M H Γ' (ptS p v vs σ) → Q (ptS p v vs σ) H) : gP K p v σ H Q := by
  cases p with
  | nm i =>
    cases hb
    exact q [] (r.set i h)
  | tp is =>
    cases h with
    | @tup a vs ds ha hl =>
      have hb : (if ds.length = is.length then some (FL.setAll is ds Γ) else none) = some Γ' := hb
      by_cases hn : ds.length = is.length
      · rw [if_pos hn] at hb
        cases hb
        exact ⟨a, vs, rfl, same_sqT r.ms ha, by rw [hl.length]; exact hn, gsP_of (by rw [hl.length]; exact hn) (q vs (r.setAll hl))⟩
      · rw [if_neg hn] at hb
        cases hb
    | _ => cases hb
def Pt.ix : Pt → List Nat
  | .nm i => [i]
  | .tp is => is
/-- a, b = e -/
def sTup (p : Pt) (m : Env → Out D) : Env → SO := fun Γ => SO.ofO (m Γ) fun d => match bindP p d Γ with
  | some Γ' => .nx Γ'
  | none => .bad
theorem s_tup {p : Pt} {tg e : Expr} {m : Env → Out D} {pos : Pos} (hh : PS X (.Assign [tg] e pos) (tAsg (tOf X.K X.mg T E m) (gP X.K p))) :
    PSm X T E (.Assign [tg] e pos) (sTup p m) := weakS hh fun Dn σ H h => by
  obtain ⟨Γ, M, M0, H0, e, r, f⟩ := h
  refine ⟨Γ, M, H0, r, FinS.ofO e f fun d v H1 M1 e1 e2 r1 f1 => ?_⟩
  cases q : bindP p d Γ with
  | none =>
    rw [q] at f1
    exact f1.elim
  | some Γ' =>
    rw [q] at f1
    exact gP_of (r.ext e2) r1 q fun vs r3 => f1 _ _ _ e1 r3
/-- a, b = x, y -/
def sPar (i j : Nat) (ms : Env → Out (List D)) : Env → SO := fun Γ => SO.ofA (ms Γ) fun ds => match ds with
  | [a, b] => .nx ((Γ.set i (some (.dat a))).set j (some (.dat b)))
  | _ => .bad
theorem tPar_of {i j : Nat} {ms : Env → Out (List D)} {Dn : Ends} (h : sOf K mg T E (sPar i j ms) Dn σ H) : tPar i j (taOf K mg T E ms) Dn σ H := by
  obtain ⟨Γ, M, M0, H0, e, r, f⟩ := h
  refine ⟨Γ, M, H0, r, FinS.ofA e f fun d v H1 M1 e1 e2 r1 f1 => ?_⟩
  cases r1 with
  | nil => exact f1.elim
  | cons h1 t1 =>
    cases t1 with
    | nil => exact f1.elim
    | cons h2 t2 =>
      cases t2 with
      | nil => exact ⟨_, _, rfl, f1 _ _ _ e1 (((r.ext e2).set i h1).set j h2)⟩
      | cons _ _ => exact f1.elim

/-! ### what is walked -/
structure Wk (K : PySem.W.Frag) (mg : Str → Option Value) (T : Tb) (M : Hp) (J : It) (ds : List D) : Prop where
  goes : ∀ i H, i < ds.length → Same M H → J.go i H
  stops : ∀ H, Same M H → J.stop ds.length H
  yields : ∀ i M2 H x H', i < ds.length → Same M M2 → Same M2 H → (NoT T M2 H) → J.yld i H x H' → ∃ d M3, ds[i]? = some d ∧ Ext T M2 H M3 H' ∧ Rp K mg M3 x d
def FinI (K : PySem.W.Frag) (mg : Str → Option Value) (T : Tb) (M H : Hp) (R : It → Hp → Prop) (E : XK) : Out (List D) → Prop
  | .ok ds => ∀ J H' M', Ext T M H M' H' → Wk K mg T M' J ds → R J H'
  | .exc c => ∀ C H' M', Ext T M H M' H' → mg c = some (.ref C) → E (.ref C) none H'
  | .bad => False
def iOf (K : PySem.W.Frag) (mg : Str → Option Value) (T : Tb) (E : XK) (m : Env → Out (List D)) : TI := fun σ H R => ∃ Γ M H0, Rs K mg T H0 M H Γ σ ∧ FinI K mg T M H R E (m Γ)
abbrev PIm (X : Cx) (T : Tb) (E : XK) (tg e : Expr) (m : Env → Out (List D)) : Prop := PI X tg e (iOf X.K X.mg T E m)
theorem weakI {tg e : Expr} {t t' : TI} (h : PI X tg e t) (w : ∀ σ H Q, t' σ H Q → t σ H Q) : PI X tg e t' := ⟨fun pins s σ H R I q => h.run pins s σ H R I (w σ H R q)⟩
theorem FinI.up {R : It → Hp → Prop} {o : Out (List D)} (h : FinI K mg T M H R E o) (e : Ext T M H M1 H1) : FinI K mg T M1 H1 R E o := by
  cases o with
  | ok d => exact fun J H2 M2 e2 r2 => h J H2 M2 (e.trans e2) r2
  | exc c => exact fun C H2 M2 e2 r2 => h C H2 M2 (e.trans e2) r2
  | bad => exact h
theorem FinI.bind {R : It → Hp → Prop} {Q' : VK} {o : Out D} {f : D → Out (List D)} (h : FinI K mg T M H R E (o.bind f))
    (k : ∀ d v H1 M1, o = .ok d → Ext T M H M1 H1 → Rp K mg M1 v d → FinI K mg T M1 H1 R E (f d) → Q' v H1) : Fin K mg T M H Q' E o := by
  cases o with
  | ok d => exact fun v H1 M1 e r => k d v H1 M1 rfl e r (FinI.up h e)
  | exc c => exact h
  | bad => exact h
theorem FinI.bindA {R : It → Hp → Prop} {Q' : List V → Hp → Prop} {o : Out (List D)} {f : List D → Out (List D)} (h : FinI K mg T M H R E (o.bind f))
    (k : ∀ d v H1 M1, o = .ok d → Ext T M H M1 H1 → RpL K mg M1 v d → FinI K mg T M1 H1 R E (f d) → Q' v H1) : FinA K mg T M H Q' E o := by
  cases o with
  | ok d => exact fun v H1 M1 e r => k d v H1 M1 rfl e r (FinI.up h e)
  | exc c => exact h
  | bad => exact h
def items : D → Out (List D)
  | .lst ds => .ok ds
  | .tup ds => .ok ds
  | _ => .bad
def mItems (m : Env → Out D) : Env → Out (List D) := fun Γ => (m Γ).bind items
theorem wk_list {a : Addr} {vs : List V} {ds : List D} (h : M a = some (.lst vs)) (r : RpL K mg M vs ds) : Wk K mg T M (Itl K a) ds where
  goes := fun i H hi s => ⟨vs, vs[i]'(by rw [r.length]; exact hi), SqL.of (s _ _ h), by simp [r.length, hi]⟩
  stops := fun H s => ⟨vs, SqL.of (s _ _ h), by rw [r.length]; exact Nat.le_refl _⟩
  yields := fun i M2 H x H' hi s1 s2 nt y => by
    obtain ⟨e, y⟩ := y
    subst e
    have q := y vs (SqL.of (s2 _ _ (s1 _ _ h)))
    obtain ⟨d, h1, h2⟩ := r.get' q
    exact ⟨d, M2, h1, Ext.refl s2 nt, h2.mono s1⟩
theorem wk_tup {a : Addr} {vs : List V} {ds : List D} (h : SqT K M a vs) (r : RpL K mg M vs ds) : Wk K mg T M (Itt K a) ds where
  goes := fun i H hi s => ⟨vs, vs[i]'(by rw [r.length]; exact hi), same_sqT s h, by simp [r.length, hi]⟩
  stops := fun H s => ⟨vs, same_sqT s h, by rw [r.length]; exact Nat.le_refl _⟩
  yields := fun i M2 H x H' hi s1 s2 nt y => by
    obtain ⟨e, y⟩ := y
    subst e
    have q := y vs (same_sqT s2 (same_sqT s1 h))
    obtain ⟨d, h1, h2⟩ := r.get' q
    exact ⟨d, M2, h1, Ext.refl s2 nt, h2.mono s1⟩
/-- a list or a tuple -/
def iSeq (K : PySem.W.Frag) (tl : TE) : TI := fun σ H R => tl σ H fun x H1 => ∃ a, x = .ref a ∧ (((∃ xs, SqL K H1 a xs) ∧ R (Itl K a) H1) ∨ ((∃ xs, SqT K H1 a xs) ∧ R (Itt K a) H1))
theorem pi_seq {tg l : Expr} {tl : TE} (hl : PE X l tl) : PI X tg l (iSeq X.K tl) := by
  refine ⟨fun pins s σ H R I h => ?_⟩
  refine thn (hl.run pins s σ H _ I h) fun v s1 ⟨x, H1, I1, r1, q1⟩ => ?_
  obtain ⟨a, e, q1⟩ := q1
  subst e
  cases r1
  rcases q1 with ⟨⟨xs, hq⟩, q⟩ | ⟨⟨xs, hq⟩, q⟩
  · obtain ⟨its, rv, p, hz⟩ := I1.list hq
    refine wpAny_pyIter_list p.isList ?_
    refine ⟨s1.heap.objs.size, [s1.heap.objs.size], _, _, H1, rfl, I1.kept (t' := s1.toks) fun b o e => Heap.get?_push_of_some _ e, turn_list a _, ⟨_, Heap.get?_push_size _ rfl, rfl, rfl⟩, fun b hb => ?_, q⟩
    have e : b = s1.heap.objs.size := by simpa using hb
    subst e
    exact I1.fpOk (Nat.le_refl _) (I1.hok.fresh (Nat.le_refl _))
  · obtain ⟨its, rv, p, hz⟩ := I1.tuple hq
    refine wpAny_pyIter_tuple (show s1.heap.IsTuple a its.toArray from p) ?_
    refine ⟨s1.heap.objs.size, [s1.heap.objs.size], _, _, H1, rfl, I1.kept (t' := s1.toks) fun b o e => Heap.get?_push_of_some _ e, turn_tuple a _, ⟨_, Heap.get?_push_size _ rfl, rfl, rfl⟩, fun b hb => ?_, q⟩
    have e : b = s1.heap.objs.size := by simpa using hb
    subst e
    exact I1.fpOk (Nat.le_refl _) (I1.hok.fresh (Nat.le_refl _))
theorem i_seq {tg e : Expr} {m : Env → Out D} (h : PEm X T E e m) : PIm X T E tg e (mItems m) := weakI (pi_seq h) fun σ H R h => by
  obtain ⟨Γ, M, H0, r, f⟩ := h
  refine ⟨Γ, M, H0, r, FinI.bind f fun d v H1 M1 _ e1 r1 f1 => ?_⟩
  have rs := r.ext e1
  cases r1 with
  | lst ha ra => exact ⟨_, rfl, .inl ⟨⟨_, SqL.of (rs.ms _ _ ha)⟩, f1 _ _ _ rs.ext0 (wk_list ha ra)⟩⟩
  | tup ha ra => exact ⟨_, rfl, .inr ⟨⟨_, same_sqT rs.ms ha⟩, f1 _ _ _ rs.ext0 (wk_tup ha ra)⟩⟩
  | _ => exact f1.elim
/-- range(n), range(a, b) -/
def intsD (lo : Int) (n : Nat) : List D := (List.range n).map fun i => .int (lo + (i : Nat))
theorem wk_range {lo : Int} {n : Nat} : Wk K mg T M (Itr lo n) (intsD lo n) where
  goes := fun i H hi s => by
    rw [intsD, List.length_map, List.length_range] at hi
    exact hi
  stops := fun H s => by
    rw [intsD, List.length_map, List.length_range]
    exact Nat.le_refl _
  yields := fun i M2 H x H' hi s1 s2 nt y => by
    rw [intsD, List.length_map, List.length_range] at hi
    obtain ⟨e, y⟩ := y
    subst e y
    refine ⟨.int (lo + (i : Nat)), M2, ?_, Ext.refl s2 nt, .int _⟩
    rw [intsD, List.getElem?_map, List.getElem?_range hi]
    rfl
def RLIM : Int := 4611686018427387904
def rng1 : List D → Out (List D)
  | [.int j] => if -RLIM ≤ j ∧ j < RLIM then .ok (intsD 0 j.toNat) else .bad
  | _ => .bad
def rng2 : List D → Out (List D)
  | [.int i, .int j] => if (-RLIM ≤ i ∧ i < RLIM) ∧ (-RLIM ≤ j ∧ j < RLIM) then .ok (intsD i (j - i).toNat) else .bad
  | _ => .bad
def mI (f : List D → Out (List D)) (ms : Env → Out (List D)) : Env → Out (List D) := fun Γ => (ms Γ).bind f
theorem i_range1 {tg a : Expr} {ms : Env → Out (List D)} {p pos : Pos} (hg : Gl X "range") (hm : X.mg "range" = none) (ha : PAm X T E [a] ms) (hs : starEach [a] X.env = [(false, eval a X.env)] := by rfl) : PIm X T E tg (.Call (.Name "range" p) [a] [] pos) (mI rng1 ms) :=
  weakI (pi_range1 hg hm ha hs) fun σ H R h => by
    obtain ⟨Γ, M, H0, r, f⟩ := h
    refine ⟨Γ, M, H0, r, FinI.bindA f fun d v H1 M1 _ e1 r1 f1 => ?_⟩
    have rs := r.ext e1
    cases r1 with
    | nil => exact f1.elim
    | cons h1 t1 =>
      cases h1 with
      | int j =>
        cases t1 with
        | nil =>
          have f1 : FinI _ _ _ _ _ _ _ (if -RLIM ≤ j ∧ j < RLIM then Out.ok (intsD 0 j.toNat) else .bad) := f1
          by_cases hj : -RLIM ≤ j ∧ j < RLIM
          · rw [if_pos hj] at f1
            unfold RLIM at hj
            exact ⟨j, rfl, by omega, by omega, f1 _ _ _ rs.ext0 wk_range⟩
          · rw [if_neg hj] at f1
            exact f1.elim
        | cons _ _ => exact f1.elim
      | _ => exact f1.elim
theorem i_range2 {tg a b : Expr} {ms : Env → Out (List D)} {p pos : Pos} (hh : PI X tg (.Call (.Name "range" p) [a, b] [] pos) (iRng2 (taOf X.K X.mg T E ms))) : PIm X T E tg (.Call (.Name "range" p) [a, b] [] pos) (mI rng2 ms) :=
  weakI hh fun σ H R h => by
    obtain ⟨Γ, M, H0, r, f⟩ := h
    refine ⟨Γ, M, H0, r, FinI.bindA f fun d v H1 M1 _ e1 r1 f1 => ?_⟩
    have rs := r.ext e1
    cases r1 with
    | nil => exact f1.elim
    | cons h1 t1 =>
      cases h1 with
      | int i =>
        cases t1 with
        | nil => exact f1.elim
        | cons h2 t2 =>
          cases h2 with
          | int j =>
            cases t2 with
            | nil =>
              have f1 : FinI _ _ _ _ _ _ _ (if (-RLIM ≤ i ∧ i < RLIM) ∧ (-RLIM ≤ j ∧ j < RLIM) then Out.ok (intsD i (j - i).toNat) else .bad) := f1
              by_cases hj : (-RLIM ≤ i ∧ i < RLIM) ∧ (-RLIM ≤ j ∧ j < RLIM)
              · rw [if_pos hj] at f1
                unfold RLIM at hj
                exact ⟨i, j, rfl, ⟨by omega, by omega, by omega, by omega⟩, f1 _ _ _ rs.ext0 wk_range⟩
              · rw [if_neg hj] at f1
                exact f1.elim
            | cons _ _ => exact f1.elim
          | _ => exact f1.elim
      | _ => exact f1.elim
/-- enumerate(list), zip(list, list), zip(tuple, tuple) -/
def enumI : List D → Out (List D)
  | [.lst ds] => .ok (ds.mapIdx fun i d => .tup [.int (i : Nat), d])
  | _ => .bad
def zipL : List D → List D → List D
  | a :: as, b :: bs => .tup [a, b] :: zipL as bs
  | _, _ => []
theorem zipL_length : ∀ (as bs : List D), (zipL as bs).length = min as.length bs.length
  | [], bs => by simp [zipL]
  | _ :: _, [] => by simp [zipL]
  | a :: as, b :: bs => by
    simp only [zipL, List.length_cons, zipL_length as bs]
    omega
theorem zipL_get : ∀ {as bs : List D} {i : Nat} {a b : D}, as[i]? = some a → bs[i]? = some b → (zipL as bs)[i]? = some (.tup [a, b])
  | [], _, _, _, _, h, _ => by simp at h
  | _ :: _, [], _, _, _, _, h => by simp at h
  | a :: as, b :: bs, 0, _, _, h1, h2 => by
    simp at h1 h2
    subst h1 h2
    rfl
  | a :: as, b :: bs, i + 1, _, _, h1, h2 => by
    simp only [zipL, List.getElem?_cons_succ] at h1 h2 ⊢
    exact zipL_get h1 h2
def zipI : List D → Out (List D)
  | [.lst as, .lst bs] => .ok (zipL as bs)
  | [.tup as, .tup bs] => .ok (zipL as bs)
  | _ => .bad
theorem newPair {Tn : Addr} {x y : V} {dx dy : D} (hT : H Tn = none) (ms : Same M H) (nt : NoT T M H) (hx : Rp K mg M x dx) (hy : Rp K mg M y dy) : ∃ M3, Ext T M H M3 (upd H Tn (.tup [x, y])) ∧ Rp K mg M3 (.ref Tn) (.tup [dx, dy]) := by
  have e := Ext.new (T := T) ms nt hT (o := .tup [x, y]) True.intro
  exact ⟨_, e, .tup (SqT.of upd_same) (.cons (hx.mono e.mm) (.cons (hy.mono e.mm) .nil))⟩
theorem wk_enum {a : Addr} {vs : List V} {ds : List D} (h : M a = some (.lst vs)) (r : RpL K mg M vs ds) : Wk K mg T M (Ite K a) (ds.mapIdx fun i d => .tup [.int (i : Nat), d]) where
  goes := fun i H hi s => by
    rw [List.length_mapIdx] at hi
    exact ⟨vs, vs[i]'(by rw [r.length]; exact hi), SqL.of (s _ _ h), by simp [r.length, hi]⟩
  stops := fun H s => by
    rw [List.length_mapIdx]
    exact ⟨vs, SqL.of (s _ _ h), by rw [r.length]; exact Nat.le_refl _⟩
  yields := fun i M2 H x H' hi s1 s2 nt y => by
    obtain ⟨Tn, z, e1, e2, e3, q⟩ := y
    subst e1 e3
    have q := q vs (SqL.of (s2 _ _ (s1 _ _ h)))
    obtain ⟨d, h1, h2⟩ := r.get' q
    obtain ⟨M3, k1, k2⟩ := newPair (T := T) e2 s2 nt (.int (i : Nat)) (h2.mono s1)
    exact ⟨_, M3, by rw [List.getElem?_mapIdx, h1]; rfl, k1, k2⟩
theorem wk_zip {a b : Addr} {vs ws : List V} {ds es : List D} (h : M a = some (.lst vs)) (r : RpL K mg M vs ds) (h' : M b = some (.lst ws)) (r' : RpL K mg M ws es) : Wk K mg T M (Itz K a b) (zipL ds es) where
  goes := fun i H hi s => by
    rw [zipL_length] at hi
    exact ⟨vs, ws, vs[i]'(by rw [r.length]; omega), ws[i]'(by rw [r'.length]; omega), SqL.of (s _ _ h), SqL.of (s _ _ h'), by rw [List.getElem?_eq_getElem], by rw [List.getElem?_eq_getElem]⟩
  stops := fun H s => by
    rw [zipL_length]
    exact ⟨vs, ws, SqL.of (s _ _ h), SqL.of (s _ _ h'), by rw [r.length, r'.length]; omega⟩
  yields := fun i M2 H x H' hi s1 s2 nt y => by
    obtain ⟨Tn, z, z', e1, e2, e3, q, q'⟩ := y
    subst e1 e3
    have q := q vs (SqL.of (s2 _ _ (s1 _ _ h)))
    have q' := q' ws (SqL.of (s2 _ _ (s1 _ _ h')))
    obtain ⟨d, h1, h2⟩ := r.get' q
    obtain ⟨d', h1', h2'⟩ := r'.get' q'
    obtain ⟨M3, k1, k2⟩ := newPair (T := T) e2 s2 nt (h2.mono s1) (h2'.mono s1)
    exact ⟨_, M3, zipL_get h1 h1', k1, k2⟩
theorem wk_zipT {a b : Addr} {vs ws : List V} {ds es : List D} (h : SqT K M a vs) (r : RpL K mg M vs ds) (h' : SqT K M b ws) (r' : RpL K mg M ws es) : Wk K mg T M (RZ.ItzT K a b) (zipL ds es) where
  goes := fun i H hi s => by
    rw [zipL_length] at hi
    exact ⟨vs, ws, vs[i]'(by rw [r.length]; omega), ws[i]'(by rw [r'.length]; omega), same_sqT s h, same_sqT s h', by rw [List.getElem?_eq_getElem], by rw [List.getElem?_eq_getElem]⟩
  stops := fun H s => by
    rw [zipL_length]
    exact ⟨vs, ws, same_sqT s h, same_sqT s h', by rw [r.length, r'.length]; omega⟩
  yields := fun i M2 H x H' hi s1 s2 nt y => by
    obtain ⟨Tn, z, z', e1, e2, e3, q, q'⟩ := y
    subst e1 e3
    have q := q vs (same_sqT s2 (same_sqT s1 h))
    have q' := q' ws (same_sqT s2 (same_sqT s1 h'))
    obtain ⟨d, h1, h2⟩ := r.get' q
    obtain ⟨d', h1', h2'⟩ := r'.get' q'
    obtain ⟨M3, k1, k2⟩ := newPair (T := T) e2 s2 nt (h2.mono s1) (h2'.mono s1)
    exact ⟨_, M3, zipL_get h1 h1', k1, k2⟩
theorem i_enum {a : Expr} {ms : Env → Out (List D)} {p pos tpos : Pos} {elts : List Expr} {kk : Nat} (hg : Gl X "enumerate") (hm : X.mg "enumerate" = none) (ha : PAm X T E [a] ms) (hs : starEach [a] X.env = [(false, eval a X.env)] := by rfl) : PIm X T E (.Tuple elts kk tpos) (.Call (.Name "enumerate" p) [a] [] pos) (mI enumI ms) :=
  weakI (pi_enum hg hm ha hs) fun σ H R h => by
    obtain ⟨Γ, M, H0, r, f⟩ := h
    refine ⟨Γ, M, H0, r, FinI.bindA f fun d v H1 M1 _ e1 r1 f1 => ?_⟩
    have rs := r.ext e1
    cases r1 with
    | nil => exact f1.elim
    | cons h1 t1 =>
      cases h1 with
      | lst hb rb =>
        cases t1 with
        | nil => exact ⟨_, _, rfl, SqL.of (rs.ms _ _ hb), f1 _ _ _ rs.ext0 (wk_enum hb rb)⟩
        | cons _ _ => exact f1.elim
      | _ => exact f1.elim
theorem i_zip {a b : Expr} {ms : Env → Out (List D)} {p pos tpos : Pos} {elts : List Expr} {kk : Nat} (hg : Gl X "zip") (hm : X.mg "zip" = none) (ha : PAm X T E [a, b] ms)
    (hs : starEach [a, b] X.env = (false, eval a X.env) :: starEach [b] X.env := by rfl) (hpl : (backTo pos (starEach [b] X.env)).any (·.1) = false := by rfl) : PIm X T E (.Tuple elts kk tpos) (.Call (.Name "zip" p) [a, b] [] pos) (mI zipI ms) :=
  weakI (RZ.pi_zipA hg hm ha hs hpl) fun σ H R h => by
    obtain ⟨Γ, M, H0, r, f⟩ := h
    refine ⟨Γ, M, H0, r, FinI.bindA f fun d v H1 M1 _ e1 r1 f1 => ?_⟩
    have rs := r.ext e1
    cases r1 with
    | nil => exact f1.elim
    | cons h1 t1 =>
      cases t1 with
      | nil => cases h1 <;> exact f1.elim
      | cons h2 t2 =>
        cases t2 with
        | cons _ _ => cases h1 <;> cases h2 <;> exact f1.elim
        | nil =>
          cases h1 with
          | lst hb rb =>
            cases h2 with
            | lst hc rc => exact ⟨_, _, _, _, rfl, .inl ⟨SqL.of (rs.ms _ _ hb), SqL.of (rs.ms _ _ hc), f1 _ _ _ rs.ext0 (wk_zip hb rb hc rc)⟩⟩
            | _ => exact f1.elim
          | tup hb rb =>
            cases h2 with
            | tup hc rc => exact ⟨_, _, _, _, rfl, .inr ⟨same_sqT rs.ms hb, same_sqT rs.ms hc, f1 _ _ _ rs.ext0 (wk_zipT hb rb hc rc)⟩⟩
            | _ => exact f1.elim
          | _ => cases h2 <;> exact f1.elim
end FL
set_option Elab.async false
set_option linter.all false
set_option maxRecDepth 100000
set_option maxHeartbeats 2000000
namespace FL
open PySem PySem.Spec PyProof.Rows L2 LamX
variable {K : PySem.W.Frag} {mg : Str → Option Value} {T : Tb} {H0 M0 M M' M1 M2 H H' H1 H2 : Hp} {Γ Γ' : Env} {σ σ' : L2.St} {E : XK} {X : Cx}

/-- another beginning for M -/
theorem Ext.low (e : Ext T M0 H0 M H) (h0 : Same M0 M1) (h1 : Same M1 M) : Ext T M1 H0 M H :=
  ⟨e.kp, fun b φ h => (e.ke b φ h).imp id fun z => ⟨z.1.mono h0, z.2⟩, e.tb, h1, e.ms, e.nt, fun a o h => by
    rcases e.nw a o h with q | q
    · exact .inl (h0 a o q)
    · exact .inr q, fun b h => (e.nm b h).imp (fun z => z.mono h0) id⟩
theorem Ext.reb (e1 : Ext T M0 H0 M1 H1) (e : Ext T M1 H0 M H) : Ext T M0 H0 M H :=
  ⟨e.kp, fun b φ h => (e.ke b φ h).imp id fun z => ⟨(e1.nm b z.1).elim id fun y => absurd h (y φ), z.2⟩, e.tb, e1.mm.trans e.mm, e.ms, e.nt, fun a o h => by
    rcases e.nw a o h with q | q
    · exact e1.nw a o q
    · exact .inr q, fun b h => (e.nm b h).elim (fun z => e1.nm b z) .inr⟩
theorem FinS.reb {Dn : Ends} {o : SO} (e1 : Ext T M0 H0 M1 H1) (h : FinS K mg T M0 H0 Dn E o) : FinS K mg T M1 H0 Dn E o := by
  cases o with
  | nx Γ => exact fun σ H M e r => h σ H M (e1.reb e) r
  | rt d => exact fun v H M e r => h v H M (e1.reb e) r
  | bk Γ => exact fun σ H M e r => h σ H M (e1.reb e) r
  | ct Γ => exact fun σ H M e r => h σ H M (e1.reb e) r
  | exc c => exact fun C H M e r => h C H M (e1.reb e) r
  | bad => exact h
/-! ### for -/
def forL (p : Pt) (b : Env → SO) : List D → Env → SO
  | [], Γ => .nx Γ
  | d :: ds, Γ => match bindP p d Γ with
    | none => .bad
    | some Γ1 => match b Γ1 with
      | .nx Γ2 => forL p b ds Γ2
      | .ct Γ2 => forL p b ds Γ2
      | .bk Γ2 => .nx Γ2
      | .rt d => .rt d
      | .exc c => .exc c
      | .bad => .bad
def sFor (p : Pt) (it : Env → Out (List D)) (b : Env → SO) : Env → SO := fun Γ => SO.ofA (it Γ) fun ds => forL p b ds Γ
theorem FinS.ofI {Dn : Ends} {R : It → Hp → Prop} {o : Out (List D)} {f : List D → SO} (e0 : Ext T M0 H0 M H) (h : FinS K mg T M0 H0 Dn E (SO.ofA o f))
    (k : ∀ d J H1 M1, Ext T M0 H0 M1 H1 → Ext T M H M1 H1 → Wk K mg T M1 J d → FinS K mg T M0 H0 Dn E (f d) → R J H1) : FinI K mg T M H R E o := by
  cases o with
  | ok d => exact fun J H1 M1 e r => k d J H1 M1 (e0.trans e) e r h
  | exc c => exact fun C H' M' e q => h C H' M' (e0.trans e) q
  | bad => exact h
theorem tFor_of {p : Pt} {it : Env → Out (List D)} {b : Env → SO} {Dn : Ends} (h : sOf K mg T E (sFor p it b) Dn σ H) : tFor (iOf K mg T E it) (gP K p) (sOf K mg T E b) Dn σ H := by
  obtain ⟨Γ, M, M0, H0, e, r, f⟩ := h
  refine ⟨Γ, M, H0, r, FinS.ofI e f fun ds J H1 M1 e1 e2 w f1 => ?_⟩
  refine ⟨fun i m σ H => m = ds.length - i ∧ i ≤ ds.length ∧ ∃ Γ M, Ext T M0 H0 M H ∧ Same M1 M ∧ Rs K mg T H0 M H Γ σ ∧ FinS K mg T M0 H0 Dn E (forL p b (ds.drop i) Γ), ⟨ds.length, by simp, Nat.zero_le _, Γ, M1, e1, Same.refl _, r.ext e2, f1⟩, ?_⟩
  rintro i m σ3 H3 ⟨rfl, hi, Γ3, M3, e3, s3, r3, f3⟩
  by_cases hlt : i < ds.length
  · have hd : ds.drop i = ds[i] :: ds.drop (i + 1) := List.drop_eq_getElem_cons hlt
    refine .inr ⟨w.goes i H3 hlt (s3.trans r3.ms), fun σ H => i + 1 ≤ ds.length ∧ ∃ Γ M, Ext T M0 H0 M H ∧ Same M1 M ∧ Rs K mg T H0 M H Γ σ ∧ FinS K mg T M0 H0 Dn E (forL p b (ds.drop (i + 1)) Γ), fun σ' H' ⟨hl, q⟩ => ⟨ds.length - (i + 1), by omega, rfl, hl, q⟩, fun x H4 y => ?_⟩
    obtain ⟨d, M4, hd4, e4, r4⟩ := w.yields i M3 H3 x H4 hlt s3 r3.ms r3.nt y
    have ed : d = ds[i] := by
      rw [List.getElem?_eq_getElem hlt] at hd4
      exact (Option.some.inj hd4).symm
    subst ed
    rw [hd] at f3
    unfold forL at f3
    cases q : bindP p ds[i] Γ3 with
    | none =>
      rw [q] at f3
      exact f3.elim
    | some Γ5 =>
      rw [q] at f3
      have f3 : FinS K mg T M0 H0 Dn E (match b Γ5 with
        | .nx Γ2 => forL p b (ds.drop (i + 1)) Γ2
        | .ct Γ2 => forL p b (ds.drop (i + 1)) Γ2
        | .bk Γ2 => .nx Γ2
        | .rt d => .rt d
        | .exc c => .exc c
        | .bad => .bad) := f3
      refine gP_of (r3.ext e4) r4 q fun vs r5 => ?_
      refine ⟨Γ5, M4, M1, H0, (e3.trans e4).low e1.mm (s3.trans e4.mm), r5, ?_⟩
      have again : ∀ Γ6, FinS K mg T M0 H0 Dn E (forL p b (ds.drop (i + 1)) Γ6) → ∀ σ H M, Ext T M1 H0 M H → Rs K mg T H0 M H Γ6 σ → i + 1 ≤ ds.length ∧ ∃ Γ M, Ext T M0 H0 M H ∧ Same M1 M ∧ Rs K mg T H0 M H Γ σ ∧ FinS K mg T M0 H0 Dn E (forL p b (ds.drop (i + 1)) Γ) := fun Γ6 f6 σ H M e r => ⟨hlt, Γ6, M, e1.reb e, e.mm, r, f6⟩
      cases qb : b Γ5 with
      | nx Γ6 =>
        rw [qb] at f3
        exact again Γ6 f3
      | ct Γ6 =>
        rw [qb] at f3
        exact again Γ6 f3
      | bk Γ6 =>
        rw [qb] at f3
        exact fun σ H M e r => f3 σ H M (e1.reb e) r
      | rt d =>
        rw [qb] at f3
        exact fun v H M e r => f3 v H M (e1.reb e) r
      | exc c =>
        rw [qb] at f3
        exact fun C H M e r => f3 C H M (e1.reb e) r
      | bad =>
        rw [qb] at f3
        exact f3
  · have ei : i = ds.length := by omega
    subst ei
    rw [List.drop_length] at f3
    exact .inl ⟨w.stops H3 (s3.trans r3.ms), f3 _ _ _ e3 r3⟩
theorem s_for {p : Pt} {tg iter : Expr} {body : List Stmt} {it : Env → Out (List D)} {b : Env → SO} {pos : Pos} (hp : PassesOwn (model X.prog X.w) X.A X.env X.xe) (hc : X.calm = true) (hi : PIm X T E tg iter it) (hg : PG X tg (gP X.K p)) (hb : PSsm X T E body b)
    (hs : ∀ x, foldedSetIterable iter X.env x = pure x := by intro _; rfl) : PSm X T E (.For tg iter body [] pos) (sFor p it b) := weakS (ps_for hp hc hi hg hb hs) fun _ _ _ h => tFor_of h

/-! ### while -/
def wStep (c : Env → Out Bool) (b : Env → SO) (Γ : Env) : Sum Env SO := match c Γ with
  | .ok true => (match b Γ with
    | .nx Γ2 => .inl Γ2
    | .ct Γ2 => .inl Γ2
    | .bk Γ2 => .inr (.nx Γ2)
    | .rt d => .inr (.rt d)
    | .exc c => .inr (.exc c)
    | .bad => .inr .bad)
  | .ok false => .inr (.nx Γ)
  | .exc c => .inr (.exc c)
  | .bad => .inr .bad
inductive WRun (c : Env → Out Bool) (b : Env → SO) : Nat → Env → SO → Prop
  | done {Γ : Env} {o : SO} : wStep c b Γ = .inr o → WRun c b 0 Γ o
  | next {n : Nat} {Γ Γ' : Env} {o : SO} : wStep c b Γ = .inl Γ' → WRun c b n Γ' o → WRun c b (n + 1) Γ o
theorem WRun.det {c : Env → Out Bool} {b : Env → SO} : ∀ {n m : Nat} {Γ : Env} {o o' : SO}, WRun c b n Γ o → WRun c b m Γ o' → o = o'
  | _, _, _, _, _, .done h, .done h' => by rw [h] at h'; cases h'; rfl
  | _, _, _, _, _, .done h, .next h' _ => by rw [h] at h'; cases h'
  | _, _, _, _, _, .next h _, .done h' => by rw [h] at h'; cases h'
  | _, _, _, _, _, .next h r, .next h' r' => by
    rw [h] at h'
    cases h'
    exact WRun.det r r'
open Classical in
noncomputable def sWhile (c : Env → Out Bool) (b : Env → SO) : Env → SO := fun Γ => if h : ∃ o n, WRun c b n Γ o then h.choose else .bad
theorem sWhile_run {c : Env → Out Bool} {b : Env → SO} {n : Nat} {Γ : Env} {o : SO} (h : WRun c b n Γ o) : sWhile c b Γ = o := by
  unfold sWhile
  have hx : ∃ o n, WRun c b n Γ o := ⟨o, n, h⟩
  rw [dif_pos hx]
  obtain ⟨m, hm⟩ := hx.choose_spec
  exact hm.det h
theorem sWhile_step {c : Env → Out Bool} {b : Env → SO} {Γ Γ' : Env} (h : wStep c b Γ = .inl Γ') : sWhile c b Γ = sWhile c b Γ' := by
  by_cases hx : ∃ o n, WRun c b n Γ' o
  · obtain ⟨o, n, r⟩ := hx
    rw [sWhile_run r, sWhile_run (WRun.next h r)]
  · have hy : ¬ ∃ o n, WRun c b n Γ o := fun ⟨o, n, r⟩ => by
      cases r with
      | done q => rw [h] at q; cases q
      | next q r =>
        rw [h] at q
        cases q
        exact hx ⟨_, _, r⟩
    unfold sWhile
    rw [dif_neg hx, dif_neg hy]
theorem sWhile_done {c : Env → Out Bool} {b : Env → SO} {Γ : Env} {o : SO} (h : wStep c b Γ = .inr o) : sWhile c b Γ = o := sWhile_run (WRun.done h)
theorem tWhile_of {c : Env → Out Bool} {b : Env → SO} {Dn : Ends} (h : sOf K mg T E (sWhile c b) Dn σ H) : tWhile (ttOf K mg T E c) (sOf K mg T E b) Dn σ H := by
  obtain ⟨Γ, M, M0, H0, e, r, f⟩ := h
  by_cases hx : ∃ o n, WRun c b n Γ o
  · obtain ⟨o, n, w⟩ := hx
    rw [sWhile_run w] at f
    refine ⟨fun m σ H => ∃ Γ M, Ext T M0 H0 M H ∧ Rs K mg T H0 M H Γ σ ∧ WRun c b m Γ o, ⟨n, Γ, M, e, r, w⟩, ?_⟩
    rintro m σ3 H3 ⟨Γ3, M3, e3, r3, w3⟩
    refine ⟨Γ3, M3, H0, r3, ?_⟩
    cases w3 with
    | done hw =>
      unfold wStep at hw
      cases hc : c Γ3 with
      | ok x =>
        rw [hc] at hw
        intro H4 M4 e4
        cases x with
        | true =>
          refine ⟨fun _ _ => False, fun _ _ z => z.elim, Γ3, M4, M0, H0, e3.trans e4, r3.ext e4, ?_⟩
          cases hb : b Γ3 with
          | nx Γ2 => rw [hb] at hw; cases hw
          | ct Γ2 => rw [hb] at hw; cases hw
          | bk Γ2 =>
            rw [hb] at hw
            cases hw
            exact f
          | rt d =>
            rw [hb] at hw
            cases hw
            exact f
          | exc c =>
            rw [hb] at hw
            cases hw
            exact f
          | bad =>
            rw [hb] at hw
            cases hw
            exact f
        | false =>
          cases hw
          exact f _ _ _ (e3.trans e4) (r3.ext e4)
      | exc x =>
        rw [hc] at hw
        cases hw
        exact fun C H4 M4 e4 q => f C H4 M4 (e3.trans e4) q
      | bad =>
        rw [hc] at hw
        cases hw
        exact f
    | @next n' _ Γ4 _ hw w4 =>
      unfold wStep at hw
      cases hc : c Γ3 with
      | ok x =>
        rw [hc] at hw
        intro H4 M4 e4
        cases x with
        | true =>
          refine ⟨fun σ H => ∃ Γ M, Ext T M0 H0 M H ∧ Rs K mg T H0 M H Γ σ ∧ WRun c b n' Γ o, fun σ' H' q => ⟨n', Nat.lt_succ_self _, q⟩, Γ3, M4, M0, H0, e3.trans e4, r3.ext e4, ?_⟩
          cases hb : b Γ3 with
          | nx Γ2 =>
            rw [hb] at hw
            cases hw
            exact fun σ H M e r => ⟨_, M, e, r, w4⟩
          | ct Γ2 =>
            rw [hb] at hw
            cases hw
            exact fun σ H M e r => ⟨_, M, e, r, w4⟩
          | bk Γ2 => rw [hb] at hw; cases hw
          | rt d => rw [hb] at hw; cases hw
          | exc c => rw [hb] at hw; cases hw
          | bad => rw [hb] at hw; cases hw
        | false => cases hw
      | exc x => rw [hc] at hw; cases hw
      | bad => rw [hc] at hw; cases hw
  · unfold sWhile at f
    rw [dif_neg hx] at f
    exact f.elim
theorem s_while {c : Expr} {body : List Stmt} {tc : Env → Out Bool} {b : Env → SO} {pos : Pos} (hp : PassesOwn (model X.prog X.w) X.A X.env X.xe) (hc : PTm X T E c tc) (hb : PSsm X T E body b) : PSm X T E (.While c body [] pos) (sWhile tc b) := weakS (ps_while hp hc hb) fun _ _ _ h => tWhile_of h

/-! ### comprehensions -/
/-- what a comprehension walks: from M1, H1 on nothing but new things -/
structure WkC (K : PySem.W.Frag) (mg : Str → Option Value) (T : Tb) (M1 H1 : Hp) (J : It) (ds : List D) : Prop where
  goes : ∀ i M H, i < ds.length → Ext T M1 H1 M H → J.go i H
  stops : ∀ M H, Ext T M1 H1 M H → J.stop ds.length H
  yields : ∀ i M2 H x H', i < ds.length → Ext T M1 H1 M2 H → J.yld i H x H' → ∃ d M3, ds[i]? = some d ∧ Ext T M2 H M3 H' ∧ Rp K mg M3 x d
theorem Wk.c {J : It} {ds : List D} (w : Wk K mg T M1 J ds) : WkC K mg T M1 H1 J ds :=
  ⟨fun i M H hi e => w.goes i H hi (e.mm.trans e.ms), fun M H e => w.stops H (e.mm.trans e.ms), fun i M2 H x H' hi e y => w.yields i M2 H x H' hi e.mm e.ms e.nt y⟩
def FinC (K : PySem.W.Frag) (mg : Str → Option Value) (T : Tb) (M H : Hp) (R : It → Hp → Prop) (E : XK) : Out (List D) → Prop
  | .ok ds => ∀ J H' M', Ext T M H M' H' → WkC K mg T M' H' J ds → R J H'
  | .exc c => ∀ C H' M', Ext T M H M' H' → mg c = some (.ref C) → E (.ref C) none H'
  | .bad => False
def iOfC (K : PySem.W.Frag) (mg : Str → Option Value) (T : Tb) (E : XK) (m : Env → Out (List D)) : TI := fun σ H R => ∃ Γ M H0, Rs K mg T H0 M H Γ σ ∧ FinC K mg T M H R E (m Γ)
abbrev PICm (X : Cx) (T : Tb) (E : XK) (tg e : Expr) (m : Env → Out (List D)) : Prop := PI X tg e (iOfC X.K X.mg T E m)
theorem i_c {tg e : Expr} {m : Env → Out (List D)} (h : PIm X T E tg e m) : PICm X T E tg e m := weakI h fun σ H R h => by
  obtain ⟨Γ, M, H0, r, f⟩ := h
  refine ⟨Γ, M, H0, r, ?_⟩
  cases q : m Γ with
  | ok ds =>
    rw [q] at f
    exact fun J H' M' e w => f J H' M' e w.c
  | exc c =>
    rw [q] at f
    exact f
  | bad =>
    rw [q] at f
    exact f
def compL (p : Pt) (c : Env → Out Bool) (elt : Env → Out D) (Γ : Env) : List D → Out (List D)
  | [] => .ok []
  | d :: ds => match bindP p d Γ with
    | none => .bad
    | some Γ1 => match c Γ1 with
      | .ok true => (match elt Γ1 with
        | .ok y => (match compL p c elt Γ ds with
          | .ok ys => .ok (y :: ys)
          | _ => .bad)
        | _ => .bad)
      | .ok false => compL p c elt Γ ds
      | _ => .bad
def mComp (vs : List Nat) (p : Pt) (it : Env → Out (List D)) (c : Env → Out Bool) (elt : Env → Out D) : Env → Out D := fun Γ => (it Γ).bind fun ds => match compL p c elt (wipeE Γ vs) ds with
  | .ok ys => dLst ys
  | _ => .bad
theorem FinC.bindE {Q : VK} {R : It → Hp → Prop} {o : Out (List D)} {f : List D → Out D} (h : Fin K mg T M H Q E (o.bind f))
    (k : ∀ ds J H1 M1, o = .ok ds → Ext T M H M1 H1 → WkC K mg T M1 H1 J ds → Fin K mg T M1 H1 Q E (f ds) → R J H1) : FinC K mg T M H R E o := by
  cases o with
  | ok d => exact fun J H1 M1 e r => k d J H1 M1 rfl e r (Fin.up h e)
  | exc c => exact h
  | bad => exact h
theorem wipe_set {σ : L2.St} {i : Nat} {x : Option V} : ∀ {vs : List Nat}, i ∈ vs → L2.wipe (σ.set i x) vs = L2.wipe σ vs
  | [], h => by cases h
  | v :: vs, h => by
    unfold L2.wipe
    by_cases e : i ∈ vs
    · rw [wipe_set e]
    · have ev : i = v := by
        rcases List.mem_cons.mp h with q | q
        · exact q
        · exact absurd q e
      subst ev
      have aux : ∀ ws : List Nat, i ∉ ws → L2.wipe (σ.set i x) ws = (L2.wipe σ ws).set i x := fun ws => by
        induction ws with
        | nil => intro _; rfl
        | cons w ws ih =>
          intro hw
          unfold L2.wipe
          rw [ih (fun z => hw (List.mem_cons_of_mem _ z)), List.set_comm]
          exact fun z => hw (by rw [z]; exact List.mem_cons_self)
      rw [aux vs e, List.set_set]
theorem wipe_setV : ∀ {is : List Nat} {us : List V} {σ : L2.St} {vs : List Nat}, (∀ i ∈ is, i ∈ vs) → L2.wipe (setV is us σ) vs = L2.wipe σ vs
  | [], [], _, _, _ => rfl
  | [], _ :: _, _, _, _ => rfl
  | _ :: _, [], _, _, _ => rfl
  | i :: is, u :: us, σ, vs, h => by
    show L2.wipe (setV is us (σ.set i (some u))) vs = _
    rw [wipe_setV (fun j hj => h j (List.mem_cons_of_mem _ hj)), wipe_set (h i List.mem_cons_self)]
theorem wipe_pt {p : Pt} {v : V} {us : List V} {σ : L2.St} {vs : List Nat} (h : ∀ i ∈ p.ix, i ∈ vs) : L2.wipe (ptS p v us σ) vs = L2.wipe σ vs := by
  cases p with
  | nm i => exact wipe_set (h i (List.mem_singleton.mpr rfl))
  | tp is => exact wipe_setV h
theorem wipe_wipe {σ : L2.St} : ∀ (vs : List Nat), L2.wipe (L2.wipe σ vs) vs = L2.wipe σ vs := fun vs => by
  have aux : ∀ (ws : List Nat) (σ' : L2.St), (∀ i ∈ ws, i ∈ vs) → L2.wipe (L2.wipe σ' ws) vs = L2.wipe σ' vs := fun ws => by
    induction ws with
    | nil => intro _ _; rfl
    | cons w ws ih =>
      intro σ' h
      show L2.wipe ((L2.wipe σ' ws).set w none) vs = _
      rw [wipe_set (h w List.mem_cons_self), ih σ' fun i hi => h i (List.mem_cons_of_mem _ hi)]
  exact aux vs σ fun i hi => hi
theorem tLc_of {vs : List Nat} {p : Pt} {it : Env → Out (List D)} {c : Env → Out Bool} {elt : Env → Out D} (hp : ∀ i ∈ p.ix, i ∈ vs) {Q : VK} (h : tOf K mg T E (mComp vs p it c elt) σ H Q) :
    tLc (iOfC K mg T E it) (gP K p) (ttOf K mg T E0 c) (tOf K mg T E0 elt) vs σ H Q := by
  obtain ⟨Γ, M, H0, r, f⟩ := h
  refine ⟨Γ, M, H0, r, FinC.bindE f fun ds J H1 M1 _ e1 w f1 => ?_⟩
  intro Da hD
  cases qc : compL p c elt (wipeE Γ vs) ds with
  | exc x =>
    rw [qc] at f1
    exact f1.elim
  | bad =>
    rw [qc] at f1
    exact f1.elim
  | ok ys =>
    rw [qc] at f1
    unfold dLst at f1
    by_cases hlen : ys.length ≤ LIM
    · have f1 : Fin K mg T M1 H1 Q E (if ys.length ≤ LIM then Out.ok (.lst ys) else .bad) := f1
      rw [if_pos hlen] at f1
      have rs1 := r.ext e1
      have mD : M1 Da = none := by
        cases q : M1 Da with
        | none => rfl
        | some u =>
          have z := rs1.ms _ _ q
          rw [hD] at z
          cases z
      have frD : Fr H1 Da := fun u hu => by rw [hD] at hu; cases hu
      -- H1, M1: the beginning; the new list is new
      refine ⟨fun i m H => m = ds.length - i ∧ i ≤ ds.length ∧ ∃ M acc done rest, Ext T M1 H1 M H ∧ H Da = some (.lst acc) ∧ M Da = none ∧ RpL K mg M acc done ∧ compL p c elt (wipeE Γ vs) (ds.drop i) = .ok rest ∧ done ++ rest = ys ∧ Tabs T H,
        ⟨ds.length, by simp, Nat.zero_le _, M1, [], [], ys, Ext.grow rs1.ms rs1.nt (same_upd hD), upd_same, mD, .nil, qc, rfl, rs1.tb.ext (same_upd hD)⟩, ?_⟩
      rintro i m H3 ⟨rfl, hi, M3, acc, done, rest, e3, hA, mA, rA, hc3, hy3, tb3⟩
      by_cases hlt : i < ds.length
      · have hd : ds.drop i = ds[i] :: ds.drop (i + 1) := List.drop_eq_getElem_cons hlt
        refine .inr ⟨w.goes i M3 H3 hlt e3, fun H => i + 1 ≤ ds.length ∧ ∃ M acc done rest, Ext T M1 H1 M H ∧ H Da = some (.lst acc) ∧ M Da = none ∧ RpL K mg M acc done ∧ compL p c elt (wipeE Γ vs) (ds.drop (i + 1)) = .ok rest ∧ done ++ rest = ys ∧ Tabs T H, fun H' ⟨hl, q⟩ => ⟨ds.length - (i + 1), by omega, rfl, hl, q⟩, fun x H4 y => ?_⟩
        obtain ⟨d, M4, hd4, e4, r4⟩ := w.yields i M3 H3 x H4 hlt e3 y
        have ed : d = ds[i] := by
          rw [List.getElem?_eq_getElem hlt] at hd4
          exact (Option.some.inj hd4).symm
        subst ed
        rw [hd] at hc3
        unfold compL at hc3
        have rw4 : Rs K mg T H0 M4 H4 (wipeE Γ vs) (L2.wipe σ vs) := ((rs1.wipe vs).ext (e3.trans e4))
        cases q : bindP p ds[i] (wipeE Γ vs) with
        | none =>
          rw [q] at hc3
          cases hc3
        | some Γ5 =>
          rw [q] at hc3
          refine gP_of rw4 r4 q fun us r5 => ?_
          refine ⟨by rw [wipe_pt hp, wipe_wipe], Γ5, M4, H0, r5, ?_⟩
          obtain ⟨mA4, hA4⟩ := e4.out mA hA True.intro
          cases q6 : c Γ5 with
          | exc x =>
            have hc3 : (match c Γ5 with
              | .ok true => (match elt Γ5 with
                | .ok y => (match compL p c elt (wipeE Γ vs) (ds.drop (i + 1)) with
                  | .ok ys => Out.ok (y :: ys)
                  | _ => .bad)
                | _ => .bad)
              | .ok false => compL p c elt (wipeE Γ vs) (ds.drop (i + 1))
              | _ => .bad) = .ok rest := hc3
            rw [q6] at hc3
            cases hc3
          | bad =>
            have hc3 : (match c Γ5 with
              | .ok true => (match elt Γ5 with
                | .ok y => (match compL p c elt (wipeE Γ vs) (ds.drop (i + 1)) with
                  | .ok ys => Out.ok (y :: ys)
                  | _ => .bad)
                | _ => .bad)
              | .ok false => compL p c elt (wipeE Γ vs) (ds.drop (i + 1))
              | _ => .bad) = .ok rest := hc3
            rw [q6] at hc3
            cases hc3
          | ok b =>
            have hc3 : (match c Γ5 with
              | .ok true => (match elt Γ5 with
                | .ok y => (match compL p c elt (wipeE Γ vs) (ds.drop (i + 1)) with
                  | .ok ys => Out.ok (y :: ys)
                  | _ => .bad)
                | _ => .bad)
              | .ok false => compL p c elt (wipeE Γ vs) (ds.drop (i + 1))
              | _ => .bad) = .ok rest := hc3
            rw [q6] at hc3
            intro H6 M6 e6
            obtain ⟨mA6, hA6⟩ := e6.out mA4 hA4 True.intro
            cases b with
            | false =>
              refine iteF ⟨hlt, M6, acc, done, rest, (e3.trans e4).trans e6, hA6, mA6, rA.mono (e4.mm.trans e6.mm), hc3, hy3, e6.tb (e4.tb tb3)⟩
            | true =>
              refine iteT ⟨Γ5, M6, H0, r5.ext e6, ?_⟩
              have hc3 : (match elt Γ5 with
                | .ok y => (match compL p c elt (wipeE Γ vs) (ds.drop (i + 1)) with
                  | .ok ys => Out.ok (y :: ys)
                  | _ => .bad)
                | _ => .bad) = .ok rest := hc3
              cases q7 : elt Γ5 with
              | exc x => rw [q7] at hc3; cases hc3
              | bad => rw [q7] at hc3; cases hc3
              | ok y =>
                rw [q7] at hc3
                have hc3 : (match compL p c elt (wipeE Γ vs) (ds.drop (i + 1)) with
                  | .ok ys => Out.ok (y :: ys)
                  | _ => .bad) = .ok rest := hc3
                cases q8 : compL p c elt (wipeE Γ vs) (ds.drop (i + 1)) with
                | exc x => rw [q8] at hc3; cases hc3
                | bad => rw [q8] at hc3; cases hc3
                | ok rest2 =>
                  rw [q8] at hc3
                  cases hc3
                  intro v H8 M8 e8 r8
                  obtain ⟨mA8, hA8⟩ := e8.out mA6 hA6 True.intro
                  refine ⟨acc, hA8, ?_, hlt, M8, acc ++ [v], done ++ [y], rest2, ?_, upd_same, mA8, ?_, rfl, by rw [List.append_assoc]; exact hy3, tabs_upd (e8.tb (e6.tb (e4.tb tb3))) hA8⟩
                  · rw [rA.length, sizeLine_eq]
                    have hz : (done ++ (y :: rest2)).length ≤ LIM := by rw [hy3]; exact hlen
                    rw [List.length_append, List.length_cons] at hz
                    unfold LIM at hz
                    omega
                  · exact (((e3.trans e4).trans e6).trans e8).mut mA8 hA8 frD
                  · exact (rA.mono ((e4.mm.trans e6.mm).trans e8.mm)).append (.cons r8 .nil)
      · have ei : i = ds.length := by omega
        subst ei
        rw [List.drop_length] at hc3
        cases hc3
        rw [List.append_nil] at hy3
        subst hy3
        refine .inl ⟨w.stops M3 H3 e3, ?_⟩
        -- the list is shared now
        have mm : Same M3 (upd M3 Da (.lst acc)) := same_upd mA
        refine f1 (.ref Da) H3 (upd M3 Da (.lst acc)) ⟨e3.kp, e3.ke, e3.tb, e3.mm.trans mm, fun b o hb => ?_, ⟨fun b o hb => ?_, e3.nt.pl.monoM fun b C dx fs hb => ?_⟩, fun b o hb => ?_, fun b hb => e3.nm b (hb.of fun x C dx fs hx => memo_lst hx)⟩ (.lst upd_same (rA.mono mm))
        · by_cases q : b = Da
          · subst q
            rw [upd_same] at hb
            rw [← hb]
            exact hA
          · rw [upd_ne q] at hb
            exact e3.ms b o hb
        · by_cases q : b = Da
          · subst q
            rw [upd_same] at hb
            cases hb
            exact True.intro
          · rw [upd_ne q] at hb
            exact e3.nt.kd b o hb
        · by_cases q : b = Da
          · subst q
            rw [upd_same] at hb
            cases hb
          · rw [upd_ne q] at hb
            exact hb
        · by_cases q : b = Da
          · subst q
            exact .inr frD
          · rw [upd_ne q] at hb
            exact e3.nw b o hb
    · have f1 : Fin K mg T M1 H1 Q E (if ys.length ≤ LIM then Out.ok (.lst ys) else .bad) := f1
      rw [if_neg hlen] at f1
      exact f1.elim
end FL
set_option Elab.async false
set_option linter.all false
set_option maxRecDepth 100000
set_option maxHeartbeats 2000000
namespace FL
open PySem PySem.Spec PyProof.Rows L2 LamX
variable {K : PySem.W.Frag} {mg : Str → Option Value} {T : Tb} {H0 M0 M M' M1 M2 H H' H1 H2 : Hp} {Γ Γ' : Env} {σ σ' : L2.St} {E : XK} {X : Cx}

/-! ### comprehensions -/
abbrev Blk (X : Cx) (scope : Scope) (s : Shared) (H : Hp) (C : Addr) (cl : List (Str × Addr)) (fp : List Addr) : Cx := X.blk s H scope (compEnvC scope cl C X.env) fp
abbrev PTsm (X : Cx) (T : Tb) (E : XK) (ifs : List Expr) (m : Env → Out Bool) : Prop := PTs X ifs (ttOf X.K X.mg T E m)
def tYesM : Env → Out Bool := fun _ => .ok true
theorem ts_nil : PTsm X T E [] tYesM := ⟨fun pins s σ H Q I h => by
  obtain ⟨Γ, M, H0, r, f⟩ := h
  exact pts_nil.run pins s σ H Q I (f H M r.ext0)⟩
theorem ts_one {c : Expr} {m : Env → Out Bool} (h : PTm X T E c m) : PTsm X T E [c] m := pts_one h
section
variable {elt tg iter : Expr} {ifs : List Expr} {scope : Scope} {own : List (Str × Nat)} {pos : Pos} {p : Pt} {it : Env → Out (List D)} {c : Env → Out Bool} {me : Env → Out D}
theorem e_lc (own : List (Str × Nat)) (p : Pt) (hc : X.calm = true) (hN : X.N.Nodup) (hi : PICm X T E tg iter it) (ok : BlkOk X.N X.env.scope scope own)
    (hg : ∀ (s : Shared) (H : Hp) (C : Addr) (cl : List (Str × Addr)) (fp : List Addr), PG (Blk X scope s H C cl fp) tg (gP X.K p)) (ht : ∀ (s : Shared) (H : Hp) (C : Addr) (cl : List (Str × Addr)) (fp : List Addr), PTsm (Blk X scope s H C cl fp) T E0 ifs c)
    (he : ∀ (s : Shared) (H : Hp) (C : Addr) (cl : List (Str × Addr)) (fp : List Addr), PEm (Blk X scope s H C cl fp) T E0 elt me) (hp : ∀ i ∈ p.ix, i ∈ own.map (·.2) := by decide) (hs : ∀ x, foldedSetIterable iter X.env x = pure x := by intro _; rfl) :
    PEm X T E (.ListComp elt [⟨tg, iter, ifs, 0⟩] scope pos) (mComp (own.map (·.2)) p it c me) :=
  weakE (pe_lc hc hN hi ok hg ht he hs) fun _ _ _ h => tLc_of hp h
theorem s_setLc (own : List (Str × Nat)) (p : Pt) {i : Nat} {y : Str} {py spos : Pos} (hc : X.calm = true) (hN : X.N.Nodup) (hy : X.N[i]? = some y) (hyl : X.env.scope.names.lookup y = some .local)
    (hsw : swapsWith (.ListComp elt [⟨tg, iter, ifs, 0⟩] scope pos) (some (.Name y py)) spos.line X.env = pure true) (hi : PICm X T E tg iter it) (ok : BlkOk X.N X.env.scope scope own)
    (hg : ∀ (s : Shared) (H : Hp) (C : Addr) (cl : List (Str × Addr)) (fp : List Addr), PG (Blk X scope s H C cl fp) tg (gP X.K p)) (ht : ∀ (s : Shared) (H : Hp) (C : Addr) (cl : List (Str × Addr)) (fp : List Addr), PTsm (Blk X scope s H C cl fp) T E0 ifs c)
    (he : ∀ (s : Shared) (H : Hp) (C : Addr) (cl : List (Str × Addr)) (fp : List Addr), PEm (Blk X scope s H C cl fp) T E0 elt me) (hp : ∀ i ∈ p.ix, i ∈ own.map (·.2) := by decide) (hs : ∀ x, foldedSetIterable iter X.env x = pure x := by intro _; rfl) :
    PSm X T E (.Assign [.Name y py] (.ListComp elt [⟨tg, iter, ifs, 0⟩] scope pos) spos) (sSet i (mComp (own.map (·.2)) p it c me)) :=
  weakS (ps_setLc hc hN hy hyl hsw hi ok hg ht he hs) fun Dn σ H h => by
    obtain ⟨Γ, M, M0, H0, e, r, f⟩ := h
    exact tLc_of hp ⟨Γ, M, H0, r, FinS.ofO e f fun d v H1 M1 e1 e2 r1 f1 => f1 _ H1 M1 e1 ((r.ext e2).set i r1)⟩
end

/-! ### defs and their calls -/
def spOf (K : PySem.W.Frag) (mg : Str → Option Value) (T : Tb) (n : Nat) (f : List D → Out D) : Sp := fun vs H Q E => vs.length = n ∧ Tabs T H ∧ ∃ M ds, Same M H ∧ (NoT T M H) ∧ RpL K mg M vs ds ∧ Fin K mg T M H Q E (f ds)
/-- the def that the name x stands for does f -/
def FnI (P : Program) (w : World) (K : PySem.W.Frag) (mg : Str → Option Value) (base : Heap) (T : Tb) (k : Nat) (x : Str) (n : Nat) (f : List D → Out D) : Prop :=
  ∃ (a : Addr) (fd : FuncData) (ps : List Str), mg x = some (.ref a) ∧ PySem.W.keepIn K (.ref a) = true ∧ Binds K fd ps [] ∧ FnOk P w K mg base (L2N.CX P w) k a fd ps (spOf K mg T n f)
theorem FnI.mono {P : Program} {w : World} {base : Heap} {j k : Nat} {x : Str} {n : Nat} {f : List D → Out D} (h : FnI P w K mg base T j x n f) (hj : j ≤ k) : FnI P w K mg base T k x n f := by
  obtain ⟨a, fd, ps, h1, h2, h3, h4⟩ := h
  exact ⟨a, fd, ps, h1, h2, h3, h4.mono hj⟩
/-- arguments in number -/
def arg (n : Nat) (f : List D → Out D) : List D → Out D := fun ds => if ds.length = n then f ds else .bad
theorem e_call {x : Str} {n k : Nat} {f : List D → Out D} {e : Expr} {es : List Expr} {ms : Env → Out (List D)} {p pos : Pos} (F : FnI X.prog X.w X.K X.mg X.base T k x n f) (hr : Room k X.A) (hx : Passes (L2N.CX X.prog X.w) X E) (hg : Gl X x)
    (ha : PAm X T E (e :: es) ms) (hl : (e :: es).length = n := by rfl) (hdb : (x == ("__debug__" : Str)) = false := by decide) (he : starEach (e :: es) X.env = (false, eval e X.env) :: starEach es X.env := by rfl) (hpl : (backTo pos (starEach es X.env)).any (·.1) = false := by rfl) :
    PEm X T E (.Call (.Name x p) (e :: es) [] pos) (mN (arg n f) ms) := by
  obtain ⟨a, fd, ps, h1, h2, h3, h4⟩ := F
  refine weakE (pe_call h4 hr hg h1 h2 h3 .nil hx ha hdb he hpl) fun σ H Q h => ?_
  obtain ⟨Γ, M, H0, r, f0⟩ := h
  refine ⟨Γ, M, H0, r, FinA.bindE f0 fun d v H1 M1 _ e1 r1 f1 => ?_⟩
  have rs := r.ext e1
  unfold arg at f1
  by_cases hn : d.length = n
  · rw [if_pos hn] at f1
    have hv : v ++ [] = v := List.append_nil v
    show spOf _ _ _ _ _ (v ++ []) _ _ _
    rw [hv]
    exact ⟨by rw [r1.length]; exact hn, rs.tb, M1, d, rs.ms, rs.nt, r1, f1⟩
  · rw [if_neg hn] at f1
    exact f1.elim
/-- what a body makes of its arguments; k more names -/
def defM (n k : Nat) (m : Env → SO) : List D → Out D := fun ds => match m (ds.map (fun d => some (.dat d)) ++ List.replicate k none) with
  | .rt d => .ok d
  | .nx _ => .ok .non
  | .exc c => .exc c
  | _ => .bad
theorem Rs.startS {vs : List V} {ss : List Sl} {N : List Str} (ms : Same M H) (nt : NoT T M H) (tb : Tabs T H) (hl : vs.length = ss.length) (h : ∀ (i : Nat) s, ss[i]? = some s → ∃ v, vs[i]? = some v ∧ SlOk K mg H0 M H v s) (one : ∀ (i : Nat) s v a, i ≠ 0 → ss[i]? = some s → vs[i]? = some v → ¬ Owns H v s a) :
    Rs K mg T H0 M H (ss.map some ++ List.replicate (N.length - vs.length) none) (L2.start N vs) := by
  have back : ∀ (i : Nat) s, (ss.map some ++ List.replicate (N.length - vs.length) none)[i]? = some (some s) → ss[i]? = some s := fun i s h => by
    by_cases hi : i < ss.length
    · rw [List.getElem?_append_left (by simpa using hi), List.getElem?_map] at h
      cases q : ss[i]? with
      | none => rw [q] at h; cases h
      | some d' =>
        rw [q] at h
        cases h
        rfl
    · rw [List.getElem?_append_right (by simpa using hi), List.getElem?_replicate] at h
      split at h <;> cases h
  have val : ∀ (i : Nat) v, i < vs.length → ((L2.start N vs)[i]? = some (some v) ↔ vs[i]? = some v) := fun i v hi => by
    unfold L2.start
    rw [List.getElem?_append_left (by rw [List.length_map]; exact hi), List.getElem?_map]
    cases vs[i]? with
    | none => simp
    | some x => simp
  refine ⟨ms, nt, tb, by simp [L2.start, hl], fun i s q => ?_, fun i j s t v w a q1 q2 q3 q4 o1 o2 => ?_⟩
  · have q := back i s q
    obtain ⟨v, h1, h2⟩ := h i s q
    exact ⟨v, (val i v (lt_of_some h1)).mpr h1, h2⟩
  · have q1 := back i s q1
    have q2 := back j t q2
    have q3 := (val i v (by rw [hl]; exact lt_of_some q1)).mp q3
    have q4 := (val j w (by rw [hl]; exact lt_of_some q2)).mp q4
    by_cases hi : i = 0
    · by_cases hj : j = 0
      · rw [hi, hj]
      · exact (one j t w a hj q2 q4 o2).elim
    · exact (one i s v a hi q1 q3 o1).elim
theorem Rs.start {vs : List V} {ds : List D} {N : List Str} (ms : Same M H) (nt : NoT T M H) (tb : Tabs T H) (r : RpL K mg M vs ds) : Rs K mg T H M H (ds.map (fun d => some (.dat d)) ++ List.replicate (N.length - vs.length) none) (L2.start N vs) := by
  have := Rs.startS (K := K) (mg := mg) (T := T) (H0 := H) (M := M) (H := H) (vs := vs) (ss := ds.map Sl.dat) (N := N) ms nt tb (by rw [List.length_map, r.length]) (fun i s q => by
    rw [List.getElem?_map] at q
    cases h : ds[i]? with
    | none => rw [h] at q; cases q
    | some d =>
      rw [h] at q
      cases q
      exact r.get h) (fun i s v a _ q _ o => by
    rw [List.getElem?_map] at q
    cases h : ds[i]? with
    | none => rw [h] at q; cases q
    | some d =>
      rw [h] at q
      cases q
      exact o)
  rw [List.map_map] at this
  exact this
theorem body_of {N : List Str} {vs : List V} {n : Nat} {m : Env → SO} {Q : VK} (h : spOf K mg T n (defM n (N.length - n) m) vs H Q E) : sOf K mg T E m { nx := fun _ H' => Q .non H', rt := Q } (L2.start N vs) H := by
  obtain ⟨hn, tb, M, ds, ms, nt, r, f⟩ := h
  have rs := Rs.start (N := N) ms nt tb r
  refine ⟨_, M, M, H, Ext.refl ms nt, rs, ?_⟩
  rw [hn]
  unfold defM at f
  cases q : m (ds.map (fun d => some (.dat d)) ++ List.replicate (N.length - n) none) with
  | nx Γ =>
    rw [q] at f
    exact fun σ H M e r => f .non H M e .non
  | rt d =>
    rw [q] at f
    exact f
  | exc c =>
    rw [q] at f
    exact f
  | bk Γ =>
    rw [q] at f
    exact f.elim
  | ct Γ =>
    rw [q] at f
    exact f.elim
  | bad =>
    rw [q] at f
    exact f.elim
/-- THE RULE for a def -/
theorem def_ok {P : Program} {w : World} {base : Heap} {x : Str} {params : Arguments} {body : List Stmt} {scope : Scope} {a : Addr} {fd : FuncData} {N ps : List Str} {k : Nat} {m : Env → SO} (n : Nat) (F : FunD K x x params body scope [] [] a fd) (S : FnScope N ps scope) (hn : ps.length = n) (hg : mg x = some (.ref a))
    (hb : ∀ (kV doc pm : Value) (an : Option Addr) (cdv ct : Value) (us : List Value), us.length = ps.length → bindArgs (PySem.W.fnOf x x params body scope .none kV doc pm an cdv ct) ⟨us, []⟩ = pure (ps.zip us))
    (hbody : ∀ (cdv : Value) (A : Around) (outer : List PySem.Env) (s : Shared) (H : Hp) (E : XK), Room k (A.deeper (envOfC x scope s.heap.objs.size a cdv)) →
      PSsm (cxOf (L2N.CX P w) P w K mg base N x scope a cdv A outer s H E) T E body m) : FnI P w K mg base T (k + 1) x n (defM n (N.length - n) m) := by
  refine ⟨a, fd, ps, hg, F.kp, F.bindsN hb, F.ok S (fun vs H Q E h => h.1.trans hn.symm) fun cdv A outer s H vs Q E hr h => ⟨_, hbody cdv A outer s H E hr, body_of h⟩⟩

/-- a def that is never called -/
theorem FnI.bad {P : Program} {w : World} {base : Heap} {x : Str} {params : Arguments} {body : List Stmt} {scope : Scope} {a : Addr} {fd : FuncData} {ps : List Str} {k n : Nat} (F : FunD K x x params body scope [] [] a fd) (hg : mg x = some (.ref a)) (hn : ps.length = n)
    (hb : ∀ (kV doc pm : Value) (an : Option Addr) (cdv ct : Value) (us : List Value), us.length = ps.length → bindArgs (PySem.W.fnOf x x params body scope .none kV doc pm an cdv ct) ⟨us, []⟩ = pure (ps.zip us)) : FnI P w K mg base T k x n (fun _ => .bad) :=
  ⟨a, fd, ps, hg, F.kp, F.bindsN hb, ⟨fun vs H Q E h => h.1.trans hn.symm, fun A outer s H args us vs Q E hr e0 hb hv h => by
    obtain ⟨_, _, _, _, _, _, _, h⟩ := h
    exact h.elim⟩⟩
/-! ### raise -/
theorem takesE {x : Str} {P : Program} {w : World} {base : Heap} {N : List Str} {scope : Scope} {a : Addr} {cdv : Value} {A : Around} {outer : List PySem.Env} {s : Shared} {H : Hp} {E : XK} :
    L2N.Takes (cxOf (L2N.CX P w) P w K mg base N x scope a cdv A outer s H E) (fun cls d _ H => E cls d H) := L2N.takes_of rfl rfl rfl rfl
theorem passE {x : Str} {P : Program} {w : World} {base : Heap} {N : List Str} {scope : Scope} {a : Addr} {cdv : Value} {A : Around} {outer : List PySem.Env} {s : Shared} {H : Hp} {E : XK} :
    Passes (L2N.CX P w) (cxOf (L2N.CX P w) P w K mg base N x scope a cdv A outer s H E) E := L2N.passes_call takesE fun _ _ _ _ h => h
theorem passN {X : Cx} : Passes (L2N.CX X.prog X.w) X E0 := fun _ _ _ _ _ _ _ h => by
  obtain ⟨_, _, _, _, _, _, _, _, _, _, _, _, z⟩ := h
  exact z.elim
/-- the class of the name x is an own exception over ValueError -/
structure ExI (K : PySem.W.Frag) (mg : Str → Option Value) (x : Str) : Prop where
  ex : ∃ C, mg x = some (.ref C) ∧ PySem.W.excIn K C [.type "ValueError", .type "Exception", .type "BaseException", .type "object"] "ValueError.__new__" = true ∧ PySem.W.keepIn K (.ref C) = true ∧
    PySem.W.subIn K (.ref C) (.type "BaseException") = some true ∧ PySem.W.typeIn K (.ref C) = some (.type "type")
def sRaise (x : Str) : Env → SO := fun _ => .exc x
/-- the class has own bases of the program in between -/
structure ExI2 (K : PySem.W.Frag) (mg : Str → Option Value) (x : Str) : Prop where
  ex : ∃ C bm, mg x = some (.ref C) ∧ PySem.W.excIn K C bm "ValueError.__new__" = true ∧ PySem.W.keepIn K (.ref C) = true ∧
    PySem.W.subIn K (.ref C) (.type "BaseException") = some true ∧ PySem.W.typeIn K (.ref C) = some (.type "type")
end FL
set_option Elab.async false
set_option linter.all false
set_option maxRecDepth 100000
set_option maxHeartbeats 2000000
namespace FL
open PySem PySem.Spec PyProof.Rows L2 LamX
variable {K : PySem.W.Frag} {mg : Str → Option Value} {T : Tb} {H0 M0 M M' M1 M2 H H' H1 H2 : Hp} {Γ Γ' : Env} {σ σ' : L2.St} {E : XK} {X : Cx}

theorem s_raise {x m : Str} {j : Nat} {p p2 pos pos' : Pos} (F : ExI X.K X.mg x) (tk : L2N.Takes X (fun cls d _ H => E cls d H)) (hc : X.calm = true) (hg : Gl X x) (hdb : (x == ("__debug__" : Str)) = false := by decide) :
    PSm X T E (.Raise (some (.Call (.Name x p) [.Constant (.str m) j p2] [] pos')) none pos) (sRaise x) := by
  obtain ⟨C, h1, h2, h3, h4, h5⟩ := F.ex
  refine weakS (L2N.ps_raise hc tk (L2N.pmk_own PySem.F.excBase_ValueError h2 h1 h3 (raises_own h4 h5) hg hdb)) fun Dn σ H h => ?_
  obtain ⟨Γ, M, M0, H0, e, r, f⟩ := h
  exact f C H M e h1

/-! ### data as the library has it; == -/
mutual
def D.py : D → PyData
  | .non => .none
  | .bl b => .bool b
  | .int i => .int i
  | .str x => .str x
  | .lst xs => .list (D.pyL xs)
  | .tup xs => .tuple (D.pyL xs)
  | .fn _ => .none
  | .ty _ => .none
  | .scr ns => .list (ns.map .int)
  | .opq _ => .none
  | .pln _ _ _ => .none
  | .wds _ => .none
  | .row _ => .none
  | .dmp _ => .none
  | .imp _ => .none
def D.pyL : List D → List PyData
  | [] => []
  | x :: xs => x.py :: D.pyL xs
end
def gd : Nat → D → Bool
  | _, .non => true
  | _, .bl _ => true
  | _, .int _ => true
  | _, .str x => PyData.strOk x
  | n + 1, .lst xs => xs.all (gd n)
  | n + 1, .tup xs => xs.all (gd n)
  | _ + 1, .scr _ => true
  | _, _ => false
theorem ints_dp : ∀ ns : List Int, DpAll K H (ns.map V.int) (ns.map PyData.int)
  | [] => .nil
  | n :: ns => .cons (.int n) (ints_dp ns)
mutual
theorem Rp.dp (s : Same M H) : ∀ {n : Nat} {d : D} {v : V}, Rp K mg M v d → gd n d = true → Dp K H v d.py
  | _, _, _, .non, _ => by unfold D.py; exact .non
  | _, _, _, .bl b, _ => by unfold D.py; exact .bl b
  | _, _, _, .int i, _ => by unfold D.py; exact .int i
  | _, _, _, .str x, _ => by unfold D.py; exact .str x
  | 0, _, _, .lst h r, g => by cases g
  | n + 1, .lst ds, _, .lst h r, g => by
    unfold D.py
    exact .lst (SqL.of (s _ _ h)) (RpL.dp s r (by unfold gd at g; exact g))
  | 0, _, _, .tup h r, g => by cases g
  | n + 1, .tup ds, _, .tup h r, g => by
    unfold D.py
    exact .tup (same_sqT s h) (RpL.dp s r (by unfold gd at g; exact g))
  | 0, _, _, .fn h, g => by cases g
  | _ + 1, _, _, .fn h, g => by cases g
  | 0, _, _, .ty h, g => by cases g
  | _ + 1, _, _, .ty h, g => by cases g
  | 0, _, _, .pln _ _ _ _, g => by cases g
  | _ + 1, _, _, .pln _ _ _ _, g => by cases g
  | 0, _, _, .row _, g => by cases g
  | _ + 1, _, _, .row _, g => by cases g
  | 0, _, _, .dmp _, g => by cases g
  | _ + 1, _, _, .dmp _, g => by cases g
  | 0, _, _, .imp _, g => by cases g
  | _ + 1, _, _, .imp _, g => by cases g
  | 0, _, _, .wds _, g => by cases g
  | _ + 1, _, _, .wds _, g => by cases g
  | 0, _, _, .opq _, g => by cases g
  | _ + 1, _, _, .opq _, g => by cases g
  | 0, _, _, .scr h, g => by cases g
  | _ + 1, _, _, .scr h, g => by
    unfold D.py
    exact .lst (s.seq h) (ints_dp _)
theorem RpL.dp (s : Same M H) : ∀ {n : Nat} {ds : List D} {vs : List V}, RpL K mg M vs ds → ds.all (gd n) = true → DpAll K H vs (D.pyL ds)
  | _, _, _, .nil, _ => by unfold D.pyL; exact .nil
  | n, d :: ds, _, .cons h r, g => by
    unfold D.pyL
    rw [List.all_cons, Bool.and_eq_true] at g
    exact .cons (Rp.dp s h g.1) (RpL.dp s r g.2)
end
theorem lay_ints : ∀ ns : List Int, PyData.canLayAll0 (ns.map PyData.int) = true ∧ PyData.depthAll (ns.map PyData.int) = 0
  | [] => by simp [PyData.canLayAll0, PyData.depthAll]
  | n :: ns => by
    have h := lay_ints ns
    simp [PyData.canLayAll0, PyData.depthAll, PyData.canLay0, PyData.depth, h.1, h.2]
mutual
theorem gd_lay : ∀ {n : Nat} {d : D}, gd n d = true → d.py.canLay0 = true ∧ d.py.depth ≤ n
  | _, .non, _ => by simp [D.py, PyData.canLay0, PyData.depth]
  | _, .bl b, _ => by simp [D.py, PyData.canLay0, PyData.depth]
  | _, .int i, _ => by simp [D.py, PyData.canLay0, PyData.depth]
  | n, .str x, g => by
    have g : PyData.strOk x = true := by cases n <;> exact g
    simp [D.py, PyData.canLay0, PyData.depth, g]
  | 0, .lst _, g => by cases g
  | 0, .tup _, g => by cases g
  | n + 1, .lst xs, g => by
    have h := gd_layL (n := n) (ds := xs) (by unfold gd at g; exact g)
    simp only [D.py, PyData.canLay0, PyData.depth]
    exact ⟨h.1, Nat.succ_le_succ h.2⟩
  | n + 1, .tup xs, g => by
    have h := gd_layL (n := n) (ds := xs) (by unfold gd at g; exact g)
    simp only [D.py, PyData.canLay0, PyData.depth]
    exact ⟨h.1, Nat.succ_le_succ h.2⟩
  | 0, .fn _, g => by cases g
  | 0, .ty _, g => by cases g
  | 0, .scr _, g => by cases g
  | 0, .pln _ _ _, g => by cases g
  | _ + 1, .pln _ _ _, g => by cases g
  | 0, .row _, g => by cases g
  | _ + 1, .row _, g => by cases g
  | 0, .dmp _, g => by cases g
  | _ + 1, .dmp _, g => by cases g
  | 0, .imp _, g => by cases g
  | _ + 1, .imp _, g => by cases g
  | 0, .wds _, g => by cases g
  | _ + 1, .wds _, g => by cases g
  | 0, .opq _, g => by cases g
  | _ + 1, .opq _, g => by cases g
  | _ + 1, .fn _, g => by cases g
  | _ + 1, .ty _, g => by cases g
  | n + 1, .scr ns, g => by
    have h := lay_ints ns
    simp only [D.py, PyData.canLay0, PyData.depth]
    exact ⟨h.1, by omega⟩
theorem gd_layL : ∀ {n : Nat} {ds : List D}, ds.all (gd n) = true → PyData.canLayAll0 (D.pyL ds) = true ∧ PyData.depthAll (D.pyL ds) ≤ n
  | _, [], _ => by simp [D.pyL, PyData.canLayAll0, PyData.depthAll]
  | n, d :: ds, g => by
    rw [List.all_cons, Bool.and_eq_true] at g
    have h1 := gd_lay g.1
    have h2 := gd_layL g.2
    simp only [D.pyL, PyData.canLayAll0, PyData.depthAll, h1.1, h2.1]
    exact ⟨rfl, by omega⟩
end
theorem gd_shaped {d : D} (g : gd 8 d = true) : SeqAt.shaped d.py = true := by
  have h := gd_lay g
  unfold SeqAt.shaped
  rw [h.1, decide_eq_true (by omega)]
  rfl
def eqv (a b : D) : Bool := PyData.eqv a.py b.py
def dEq (a b : D) : Out D := if (gd 8 a && gd 8 b) = true then .ok (.bl (eqv a b)) else .bad
def dNe (a b : D) : Out D := if (gd 8 a && gd 8 b) = true then .ok (.bl (!eqv a b)) else .bad
theorem dEq_ok {a b d : D} (h : dEq a b = .ok d) : gd 8 a = true ∧ gd 8 b = true ∧ d = .bl (eqv a b) := by
  unfold dEq at h
  by_cases g : (gd 8 a && gd 8 b) = true
  · rw [if_pos g] at h
    cases h
    rw [Bool.and_eq_true] at g
    exact ⟨g.1, g.2, rfl⟩
  · rw [if_neg g] at h
    cases h
theorem dNe_ok {a b d : D} (h : dNe a b = .ok d) : gd 8 a = true ∧ gd 8 b = true ∧ d = .bl (!eqv a b) := by
  unfold dNe at h
  by_cases g : (gd 8 a && gd 8 b) = true
  · rw [if_pos g] at h
    cases h
    rw [Bool.and_eq_true] at g
    exact ⟨g.1, g.2, rfl⟩
  · rw [if_neg g] at h
    cases h
theorem od_eq : OpD K mg T (rEqD K) dEq := fun x y dx dy M H Q d s nt rx ry h q => by
  obtain ⟨g1, g2, rfl⟩ := dEq_ok h
  exact ⟨dx.py, dy.py, rx.dp s g1, ry.dp s g2, gd_shaped g1, gd_shaped g2, q _ _ _ (Ext.refl s nt) (.bl _)⟩
theorem od_ne : OpD K mg T (rNeD K) dNe := fun x y dx dy M H Q d s nt rx ry h q => by
  obtain ⟨g1, g2, rfl⟩ := dNe_ok h
  exact ⟨dx.py, dy.py, rx.dp s g1, ry.dp s g2, gd_shaped g1, gd_shaped g2, q _ _ _ (Ext.refl s nt) (.bl _)⟩
theorem nx_eq : noX dEq := fun a b c h => by
  unfold dEq at h
  split at h <;> cases h
theorem nx_ne : noX dNe := fun a b c h => by
  unfold dNe at h
  split at h <;> cases h

/-! ### whole numbers -/
def i2 (C : Int → Int → Bool) (g : Int → Int → D) : D → D → Out D
  | .int i, .int j => if C i j = true then .ok (g i j) else .bad
  | _, _ => .bad
theorem i2_ok {C : Int → Int → Bool} {g : Int → Int → D} {a b d : D} (h : i2 C g a b = .ok d) : ∃ i j, a = .int i ∧ b = .int j ∧ C i j = true ∧ d = g i j := by
  unfold i2 at h
  split at h
  · split at h
    · cases h
      exact ⟨_, _, rfl, rfl, by assumption, rfl⟩
    · cases h
  · cases h
theorem nx_i2 {C : Int → Int → Bool} {g : Int → Int → D} : noX (i2 C g) := fun a b c h => by
  unfold i2 at h
  split at h
  · split at h <;> cases h
  · cases h
theorem od_I {C : Int → Int → Prop} {C' : Int → Int → Bool} {g : Int → Int → V} {g' : Int → Int → D} (hC : ∀ i j, C' i j = true → C i j) (hg : ∀ i j M, Rp K mg M (g i j) (g' i j)) : OpD K mg T (rI C g) (i2 C' g') := fun x y dx dy M H Q d s nt rx ry h q => by
  obtain ⟨i, j, rfl, rfl, c, rfl⟩ := i2_ok h
  cases rx
  cases ry
  exact ⟨i, j, rfl, rfl, hC i j c, q _ _ _ (Ext.refl s nt) (hg i j M)⟩
theorem od_I0 {g : Int → Int → V} {g' : Int → Int → D} (hg : ∀ i j M, Rp K mg M (g i j) (g' i j)) : OpD K mg T (rI0 g) (i2 (fun _ _ => true) g') := fun x y dx dy M H Q d s nt rx ry h q => by
  obtain ⟨i, j, rfl, rfl, c, rfl⟩ := i2_ok h
  cases rx
  cases ry
  exact ⟨i, j, rfl, rfl, q _ _ _ (Ext.refl s nt) (hg i j M)⟩
def dSub : D → D → Out D := i2 (fun _ _ => true) fun i j => .int (i - j)
def dLtI : D → D → Out D := i2 (fun _ _ => true) fun i j => .bl (decide (i < j))
def dLe : D → D → Out D := i2 (fun _ _ => true) fun i j => .bl (decide (i ≤ j))
def dGt : D → D → Out D := i2 (fun _ _ => true) fun i j => .bl (decide (j < i))
def dGe : D → D → Out D := i2 (fun _ _ => true) fun i j => .bl (decide (j ≤ i))
def dAndI : D → D → Out D := i2 (fun _ _ => true) fun i j => .int (Builtin.bitAnd i j)
def dXorI : D → D → Out D := i2 (fun _ _ => true) fun i j => .int (Builtin.bitXor i j)
def dMod : D → D → Out D := i2 (fun _ j => decide (0 < j)) fun i j => .int (i % j)
def small (i : Int) : Bool := decide (i.natAbs < 2 ^ 4096)
def dDiv : D → D → Out D := i2 (fun _ j => decide (0 < j) && small j) fun i j => .int (i / j)
def dPow : D → D → Out D := i2 (fun i j => decide (0 ≤ j) && (decide (j ≤ 1000000) && decide (i.natAbs < 2 ^ 64))) fun i j => .int (i ^ j.toNat)
def dShl : D → D → Out D := i2 (fun i j => decide (0 ≤ j) && (decide (j ≤ 1000000) && decide (i.natAbs < 2 ^ 64))) fun i j => .int (i * 2 ^ j.toNat)
theorem od_sub : OpD K mg T (rI0 fun i j => .int (i - j)) dSub := od_I0 fun i j M => .int _
theorem od_ltI : OpD K mg T (rI0 fun i j => .bl (decide (i < j))) dLtI := od_I0 fun i j M => .bl _
theorem od_le : OpD K mg T (rI0 fun i j => .bl (decide (i ≤ j))) dLe := od_I0 fun i j M => .bl _
theorem od_gt : OpD K mg T (rI0 fun i j => .bl (decide (j < i))) dGt := od_I0 fun i j M => .bl _
theorem od_ge : OpD K mg T (rI0 fun i j => .bl (decide (j ≤ i))) dGe := od_I0 fun i j M => .bl _
theorem od_and : OpD K mg T (rI0 fun i j => .int (Builtin.bitAnd i j)) dAndI := od_I0 fun i j M => .int _
theorem od_xor : OpD K mg T (rI0 fun i j => .int (Builtin.bitXor i j)) dXorI := od_I0 fun i j M => .int _
theorem od_mod : OpD K mg T (rI (fun _ j => 0 < j) fun i j => .int (i % j)) dMod := od_I (fun i j h => of_decide_eq_true h) fun i j M => .int _
theorem od_div : OpD K mg T (rI CDivW fun i j => .int (i / j)) dDiv := od_I (fun i j h => by
  rw [Bool.and_eq_true] at h
  exact wide_div (of_decide_eq_true h.1) (of_decide_eq_true h.2) (by omega) (by omega)) fun i j M => .int _
theorem od_pow : OpD K mg T (rI CPow fun i j => .int (i ^ j.toNat)) dPow := od_I (fun i j h => by
  rw [Bool.and_eq_true, Bool.and_eq_true] at h
  exact ⟨of_decide_eq_true h.1, of_decide_eq_true h.2.1, of_decide_eq_true h.2.2⟩) fun i j M => .int _
theorem od_shl : OpD K mg T (rI CPow fun i j => .int (i * 2 ^ j.toNat)) dShl := od_I (fun i j h => by
  rw [Bool.and_eq_true, Bool.and_eq_true] at h
  exact ⟨of_decide_eq_true h.1, of_decide_eq_true h.2.1, of_decide_eq_true h.2.2⟩) fun i j M => .int _

/-! ### +, * -/
def dAdd : D → D → Out D
  | .int i, .int j => .ok (.int (i + j))
  | .lst xs, .lst ys => if xs.length + ys.length ≤ LIM then .ok (.lst (xs ++ ys)) else .bad
  | .tup xs, .tup ys => if xs.length + ys.length ≤ LIM then .ok (.tup (xs ++ ys)) else .bad
  | _, _ => .bad
theorem nx_add : noX dAdd := fun a b c h => by
  unfold dAdd at h
  split at h
  · cases h
  · split at h <;> cases h
  · split at h <;> cases h
  · cases h
def rAddA (K : PySem.W.Frag) : R2 := fun x y H Q => rI0 (fun i j => .int (i + j)) x y H Q ∨ (rCat x y H Q ∨ rCatA K x y H Q)
theorem op_addA : OpR X (binaryOp .Add) (rAddA X.K) := op_add.or (op_cat.or op_catA)
theorem newLst {p : Addr} {vs : List V} {ds : List D} (hp : H p = none) (s : Same M H) (nt : NoT T M H) (r : RpL K mg M vs ds) : ∃ M', Ext T M H M' (upd H p (.lst vs)) ∧ Rp K mg M' (.ref p) (.lst ds) := by
  have e := Ext.new (T := T) s nt hp (o := .lst vs) True.intro
  exact ⟨_, e, .lst upd_same (r.mono e.mm)⟩
theorem newTup {p : Addr} {vs : List V} {ds : List D} (hp : H p = none) (s : Same M H) (nt : NoT T M H) (r : RpL K mg M vs ds) : ∃ M', Ext T M H M' (upd H p (.tup vs)) ∧ Rp K mg M' (.ref p) (.tup ds) := by
  have e := Ext.new (T := T) s nt hp (o := .tup vs) True.intro
  exact ⟨_, e, .tup (SqT.of upd_same) (r.mono e.mm)⟩
theorem od_add : OpD K mg T (rAddA K) dAdd := fun x y dx dy M H Q d s nt rx ry h q => by
  cases rx with
  | int i =>
    cases ry with
    | int j =>
      cases h
      exact .inl ⟨i, j, rfl, rfl, q _ _ _ (Ext.refl s nt) (.int _)⟩
    | _ => cases h
  | @lst a vs xs ha ra =>
    cases ry with
    | @lst b ws ys hb rb =>
      have h : (if xs.length + ys.length ≤ LIM then Out.ok (.lst (xs ++ ys)) else .bad) = .ok d := h
      by_cases hl : xs.length + ys.length ≤ LIM
      · rw [if_pos hl] at h
        cases h
        refine .inr (.inl ⟨a, b, vs, ws, rfl, rfl, s _ _ ha, s _ _ hb, by rw [ra.length, rb.length]; exact lim_line hl, fun p hp => ?_⟩)
        obtain ⟨M', e, r⟩ := newLst (T := T) hp s nt (ra.append rb)
        exact q _ _ _ e r
      · rw [if_neg hl] at h
        cases h
    | _ => cases h
  | @tup a vs xs ha ra =>
    cases ry with
    | @tup b ws ys hb rb =>
      have h : (if xs.length + ys.length ≤ LIM then Out.ok (.tup (xs ++ ys)) else .bad) = .ok d := h
      by_cases hl : xs.length + ys.length ≤ LIM
      · rw [if_pos hl] at h
        cases h
        refine .inr (.inr ⟨a, b, vs, ws, rfl, rfl, same_sqT s ha, same_sqT s hb, by rw [ra.length, rb.length]; exact lim_line hl, fun ex => ?_, fun _ ey => ?_, fun _ _ p hp => ?_⟩)
        · subst ex
          cases ra
          exact q _ _ _ (Ext.refl s nt) (.tup hb rb)
        · subst ey
          cases rb
          rw [List.append_nil] at q
          exact q _ _ _ (Ext.refl s nt) (.tup ha ra)
        · obtain ⟨M', e, r⟩ := newTup (T := T) hp s nt (ra.append rb)
          exact q _ _ _ e r
      · rw [if_neg hl] at h
        cases h
    | _ => cases h
  | _ => cases ry <;> cases h
def mulOk (i j : Int) : Bool := (decide (i.natAbs < 2 ^ 64) || decide (j.natAbs < 2 ^ 64)) || (small i && small j)
def dMul : D → D → Out D
  | .int i, .int j => if mulOk i j = true then .ok (.int (i * j)) else .bad
  | .lst xs, .int k => if 0 ≤ k ∧ k ≤ 1000 ∧ xs.length * k.toNat ≤ LIM then .ok (.lst (List.replicate k.toNat xs).flatten) else .bad
  | .tup xs, .int k => if xs ≠ [] ∧ 2 ≤ k ∧ k ≤ 1000 ∧ xs.length ≤ 1000 then .ok (.tup (List.replicate k.toNat xs).flatten) else .bad
  | _, _ => .bad

theorem nx_mul : noX dMul := fun a b c h => by
  unfold dMul at h
  split at h
  · split at h <;> cases h
  · split at h <;> cases h
  · split at h <;> cases h
  · cases h
def rMulA (K : PySem.W.Frag) : R2 := fun x y H Q => (rI CMul (fun i j => .int (i * j)) x y H Q ∨ rI CMulW (fun i j => .int (i * j)) x y H Q) ∨ (rRep x y H Q ∨ rRepT K x y H Q)
theorem op_mulA : OpR X (binaryOp .Mult) (rMulA X.K) := (op_mul.or op_mulW).or (op_rep.or op_repT)
theorem replicate_rp {n : Nat} {vs : List V} {ds : List D} (r : RpL K mg M vs ds) : RpL K mg M (List.replicate n vs).flatten (List.replicate n ds).flatten := by
  induction n with
  | zero => exact .nil
  | succ n ih =>
    rw [List.replicate_succ, List.replicate_succ, List.flatten_cons, List.flatten_cons]
    exact r.append ih
theorem od_mul : OpD K mg T (rMulA K) dMul := fun x y dx dy M H Q d s nt rx ry h q => by
  cases rx with
  | int i =>
    cases ry with
    | int j =>
      have h : (if mulOk i j = true then Out.ok (.int (i * j)) else .bad) = .ok d := h
      by_cases hm : mulOk i j = true
      · rw [if_pos hm] at h
        cases h
        unfold mulOk at hm
        rw [Bool.or_eq_true, Bool.or_eq_true, Bool.and_eq_true] at hm
        have fin : Q (.int (i * j)) H := q _ _ _ (Ext.refl s nt) (.int _)
        rcases hm with (hm | hm) | ⟨h1, h2⟩
        · have := of_decide_eq_true hm
          exact .inl (.inl ⟨i, j, rfl, rfl, .inl ⟨by omega, by omega⟩, fin⟩)
        · have := of_decide_eq_true hm
          exact .inl (.inl ⟨i, j, rfl, rfl, .inr ⟨by omega, by omega⟩, fin⟩)
        · exact .inl (.inr ⟨i, j, rfl, rfl, wide_mul (of_decide_eq_true h1) (of_decide_eq_true h2) (by omega) (by omega) (by omega), fin⟩)
      · rw [if_neg hm] at h
        cases h
    | _ => cases h
  | @lst a vs xs ha ra =>
    cases ry with
    | int k =>
      have h : (if 0 ≤ k ∧ k ≤ 1000 ∧ xs.length * k.toNat ≤ LIM then Out.ok (.lst (List.replicate k.toNat xs).flatten) else .bad) = .ok d := h
      by_cases hl : 0 ≤ k ∧ k ≤ 1000 ∧ xs.length * k.toNat ≤ LIM
      · rw [if_pos hl] at h
        cases h
        refine .inr (.inl ⟨a, k, vs, rfl, rfl, s _ _ ha, by omega, by omega, by rw [ra.length]; exact lim_line hl.2.2, fun p hp => ?_⟩)
        obtain ⟨M', e, r⟩ := newLst (T := T) hp s nt (replicate_rp (n := k.toNat) ra)
        exact q _ _ _ e r
      · rw [if_neg hl] at h
        cases h
    | _ => cases h
  | @tup a vs xs ha ra =>
    cases ry with
    | int k =>
      have h : (if xs ≠ [] ∧ 2 ≤ k ∧ k ≤ 1000 ∧ xs.length ≤ 1000 then Out.ok (.tup (List.replicate k.toNat xs).flatten) else .bad) = .ok d := h
      by_cases hl : xs ≠ [] ∧ 2 ≤ k ∧ k ≤ 1000 ∧ xs.length ≤ 1000
      · rw [if_pos hl] at h
        cases h
        refine .inr (.inr ⟨a, k, vs, rfl, rfl, same_sqT s ha, fun z => ?_, hl.2.1, hl.2.2.1, by rw [ra.length]; exact hl.2.2.2, fun p hp => ?_⟩)
        · subst z
          cases ra
          exact hl.1 rfl
        obtain ⟨M', e, r⟩ := newTup (T := T) hp s nt (replicate_rp (n := k.toNat) ra)
        exact q _ _ _ e r
      · rw [if_neg hl] at h
        cases h
    | _ => cases h
  | _ => cases ry <;> cases h

/-! ### items -/
def dIx : D → D → Out D
  | .lst xs, .int i => (match atI xs i with
    | some d => .ok d
    | none => .bad)
  | .tup xs, .int i => (match atI xs i with
    | some d => .ok d
    | none => .bad)
  | .scr ns, .int i => (match atI ns i with
    | some d => .ok (.int d)
    | none => .bad)
  | _, _ => .bad
theorem nx_ix : noX dIx := fun a b c h => by
  unfold dIx at h
  split at h
  · split at h <;> cases h
  · split at h <;> cases h
  · split at h <;> cases h
  · cases h
theorem atI_rp {vs : List V} {ds : List D} {i : Int} {d : D} (r : RpL K mg M vs ds) (h : atI ds i = some d) : ∃ v, atI vs i = some v ∧ Rp K mg M v d := by
  unfold atI at h ⊢
  rw [r.length]
  cases q : ixN ds.length i with
  | none => rw [q] at h; cases h
  | some j =>
    rw [q] at h
    exact r.get h
theorem atI_map {α β : Type} {f : α → β} {xs : List α} {i : Int} {x : α} (h : atI xs i = some x) : atI (xs.map f) i = some (f x) := by
  unfold atI at h ⊢
  rw [List.length_map]
  cases q : ixN xs.length i with
  | none => rw [q] at h; cases h
  | some j =>
    rw [q] at h
    show (xs.map f)[j]? = _
    rw [List.getElem?_map, show xs[j]? = some x from h]
    rfl
theorem od_ix : OpD K mg T (rIx K) dIx := fun x y dx dy M H Q d s nt rx ry h q => by
  cases rx with
  | @lst a vs xs ha ra =>
    cases ry with
    | int i =>
      cases e : atI xs i with
      | none =>
        have h : (match atI xs i with | some d => Out.ok d | none => .bad) = .ok d := h
        rw [e] at h
        cases h
      | some z =>
        have h : (match atI xs i with | some d => Out.ok d | none => .bad) = .ok d := h
        rw [e] at h
        cases h
        obtain ⟨v, h1, h2⟩ := atI_rp ra e
        exact .inl ⟨a, vs, i, v, rfl, rfl, SqL.of (s _ _ ha), h1, q _ _ _ (Ext.refl s nt) h2⟩
    | _ => cases h
  | @tup a vs xs ha ra =>
    cases ry with
    | int i =>
      cases e : atI xs i with
      | none =>
        have h : (match atI xs i with | some d => Out.ok d | none => .bad) = .ok d := h
        rw [e] at h
        cases h
      | some z =>
        have h : (match atI xs i with | some d => Out.ok d | none => .bad) = .ok d := h
        rw [e] at h
        cases h
        obtain ⟨v, h1, h2⟩ := atI_rp ra e
        exact .inr (.inl ⟨a, vs, i, v, rfl, rfl, same_sqT s ha, h1, q _ _ _ (Ext.refl s nt) h2⟩)
    | _ => cases h
  | @scr a ns ha =>
    cases ry with
    | int i =>
      cases e : atI ns i with
      | none =>
        have h : (match atI ns i with | some d => Out.ok (D.int d) | none => .bad) = .ok d := h
        rw [e] at h
        cases h
      | some z =>
        have h : (match atI ns i with | some d => Out.ok (D.int d) | none => .bad) = .ok d := h
        rw [e] at h
        cases h
        exact .inl ⟨a, _, i, .int z, rfl, rfl, s.seq ha, atI_map e, q _ _ _ (Ext.refl s nt) (.int z)⟩
    | _ => cases h
  | _ => cases ry <;> cases h
theorem e_ix {a b : Expr} {ma mb : Env → Out D} {pos : Pos} (ha : PEm X T E a ma) (hb : PEm X T E b mb) (hs : PlainIx b) : PEm X T E (.Subscript a b pos) (m2 dIx ma mb) :=
  weakE (pe_ix ix_seq ha hb hs) fun _ _ _ h => tOp_of od_ix nx_ix h
/-! ### slices -/
abbrev TOm := Env → Out (Option Int)
def oNone : TOm := fun _ => .ok none
def oSome (m : Env → Out D) : TOm := fun Γ => (m Γ).bind fun d => match d with
  | .int i => .ok (some i)
  | _ => .bad
def FinO (mg : Str → Option Value) (T : Tb) (M H : Hp) (Q : Option Int → Hp → Prop) (E : XK) : Out (Option Int) → Prop
  | .ok b => ∀ H' M', Ext T M H M' H' → Q b H'
  | .exc c => ∀ C H' M', Ext T M H M' H' → mg c = some (.ref C) → E (.ref C) none H'
  | .bad => False
def toOf (K : PySem.W.Frag) (mg : Str → Option Value) (T : Tb) (E : XK) (m : TOm) : TO := fun σ H Q => ∃ Γ M H0, Rs K mg T H0 M H Γ σ ∧ FinO mg T M H Q E (m Γ)
theorem weakO {e : Option Expr} {t t' : TO} (h : PO X e t) (w : ∀ σ H Q, t' σ H Q → t σ H Q) : PO X e t' := ⟨fun pins s σ H Q I q => h.run pins s σ H Q I (w σ H Q q)⟩
abbrev POm (X : Cx) (T : Tb) (E : XK) (e : Option Expr) (m : TOm) : Prop := PO X e (toOf X.K X.mg T E m)
theorem o_none : POm X T E none oNone := weakO po_none fun σ H Q h => by
  obtain ⟨Γ, M, H0, r, f⟩ := h
  exact f H M r.ext0
theorem o_some {e : Expr} {m : Env → Out D} (h : PEm X T E e m) : POm X T E (some e) (oSome m) := weakO (po_some h) fun σ H Q h => by
  obtain ⟨Γ, M, H0, r, f⟩ := h
  refine ⟨Γ, M, H0, r, ?_⟩
  unfold oSome at f
  cases q : m Γ with
  | ok d =>
    rw [q] at f
    intro v H' M' e r1
    cases r1 with
    | int i => exact ⟨i, rfl, f H' M' e⟩
    | _ => exact f.elim
  | exc c =>
    rw [q] at f
    exact f
  | bad =>
    rw [q] at f
    exact f.elim
def cutD (xs : List D) (lo hi : Option Int) : List D := (xs.drop (HT.sIx xs.length 0 lo)).take (HT.sIx xs.length xs.length hi - HT.sIx xs.length 0 lo)
def dSl (d : D) (lo hi : Option Int) : Out D := match d with
  | .lst xs => .ok (.lst (cutD xs lo hi))
  | .tup xs => .ok (.tup (cutD xs lo hi))
  | _ => .bad
def mSl (m : Env → Out D) (lo hi : TOm) : Env → Out D := fun Γ => (m Γ).bind fun d => (lo Γ).bind fun l => (hi Γ).bind fun h => dSl d l h
theorem FinO.bindE {Q : VK} {Q' : Option Int → Hp → Prop} {o : Out (Option Int)} {f : Option Int → Out D} (h : Fin K mg T M H Q E (o.bind f))
    (k : ∀ d H1 M1, o = .ok d → Ext T M H M1 H1 → Fin K mg T M1 H1 Q E (f d) → Q' d H1) : FinO mg T M H Q' E o := by
  cases o with
  | ok d => exact fun H1 M1 e => k d H1 M1 rfl e (Fin.up h e)
  | exc c => exact h
  | bad => exact h
theorem cut_rp {vs : List V} {ds : List D} {lo hi : Option Int} (r : RpL K mg M vs ds) : RpL K mg M (cutV vs lo hi) (cutD ds lo hi) := by
  unfold cutV cutD
  rw [r.length]
  exact (r.drop _).take _
def rSlLT (K : PySem.W.Frag) : V → Option Int → Option Int → Hp → VK → Prop := fun x lo hi H Q => rSlL K x lo hi H Q ∨ rSlA K x lo hi H Q
theorem sl_lt : SlR X (rSlLT X.K) := by
  intro pins s σ H x v vl vu lo hi sl Q I rx hs pl pu h
  rcases h with h | h
  · exact sl_list pins s σ H x v vl vu lo hi sl Q I rx hs pl pu h
  · exact sl_tupA pins s σ H x v vl vu lo hi sl Q I rx hs pl pu h
theorem sIx_whole {xs : List D} {lo hi : Option Int} (h : HT.sIx xs.length 0 lo = 0 ∧ HT.sIx xs.length xs.length hi = xs.length) : cutD xs lo hi = xs := by
  unfold cutD
  rw [h.1, h.2]
  simp
theorem tSl_of {m : Env → Out D} {lo hi : TOm} {Q : VK} (h : tOf K mg T E (mSl m lo hi) σ H Q) : tSl (rSlLT K) (tOf K mg T E m) (toOf K mg T E lo) (toOf K mg T E hi) σ H Q := by
  obtain ⟨Γ, M, H0, r, f⟩ := h
  refine ⟨Γ, M, H0, r, Fin.bind f fun d v H1 M1 _ e1 r1 f1 => ?_⟩
  refine ⟨Γ, M1, H0, r.ext e1, FinO.bindE f1 fun l H2 M2 _ e2 f2 => ?_⟩
  refine ⟨Γ, M2, H0, (r.ext e1).ext e2, FinO.bindE f2 fun u H3 M3 _ e3 f3 => ?_⟩
  have rs := ((r.ext e1).ext e2).ext e3
  have r1 := r1.mono (e2.mm.trans e3.mm)
  cases r1 with
  | lst ha ra =>
    refine .inl ⟨_, _, rfl, SqL.of (rs.ms _ _ ha), fun p hp => ?_⟩
    obtain ⟨M', e, rr⟩ := newLst (T := T) hp rs.ms rs.nt (cut_rp (lo := l) (hi := u) ra)
    exact f3 _ _ _ e rr
  | @tup a vs xs ha ra =>
    refine .inr ⟨_, _, rfl, same_sqT rs.ms ha, fun hw => ?_, fun _ p hp => ?_⟩
    · rw [ra.length] at hw
      have f3 : Fin K mg T M3 H3 Q E (.ok (.tup (cutD xs l u))) := f3
      rw [sIx_whole hw] at f3
      exact f3 _ _ _ rs.ext0 (.tup ha ra)
    · obtain ⟨M', e, rr⟩ := newTup (T := T) hp rs.ms rs.nt (cut_rp (lo := l) (hi := u) ra)
      exact f3 _ _ _ e rr
  | _ => exact f3.elim
theorem e_slice {a : Expr} {lo hi : Option Expr} {m : Env → Out D} {ml mh : TOm} {p1 pos : Pos} (ha : PEm X T E a m) (hl : POm X T E lo ml) (hh : POm X T E hi mh) :
    PEm X T E (.Subscript a (.Slice lo hi none p1) pos) (mSl m ml mh) := weakE (pe_slice sl_lt ha hl hh) fun _ _ _ h => tSl_of h
/-- xs[::-1] -/
def dRev : D → Out D
  | .lst xs => .ok (.lst xs.reverse)
  | _ => .bad
theorem e_rev {e : Expr} {m : Env → Out D} {k : Nat} {p1 p2 p3 pos : Pos} (h : PEm X T E e m) : PEm X T E (.Subscript e (.Slice none none (some (.UnaryOp .USub (.Constant (.int 1) k p1) p2)) p3) pos) (m1 dRev m) :=
  weakE (pe_revL h) fun σ H Q h => by
    obtain ⟨Γ, M, H0, r, f⟩ := h
    refine ⟨Γ, M, H0, r, Fin.bind f fun d v H1 M1 _ e1 r1 f1 => ?_⟩
    have rs := r.ext e1
    cases r1 with
    | lst ha ra =>
      refine ⟨_, _, rfl, SqL.of (rs.ms _ _ ha), fun p hp => ?_⟩
      obtain ⟨M', e, rr⟩ := newLst (T := T) hp rs.ms rs.nt ra.reverse
      exact f1 _ _ _ e rr
    | _ => exact f1.elim
end FL
set_option Elab.async false
set_option linter.all false
set_option maxRecDepth 100000
set_option maxHeartbeats 2000000
namespace FL
open PySem PySem.Spec PyProof.Rows L2 LamX
variable {K : PySem.W.Frag} {mg : Str → Option Value} {T : Tb} {H0 M0 M M' M1 M2 H H' H1 H2 : Hp} {Γ Γ' : Env} {σ σ' : L2.St} {E : XK} {X : Cx}

/-- a built-in of one argument -/
def c1 (f : D → Out D) : List D → Out D
  | [d] => f d
  | _ => .bad
theorem cd_1 {r : List V → Hp → VK → Prop} {f : D → Out D} (h : ∀ x dx M H Q d, Same M H → (NoT T M H) → Rp K mg M x dx → f dx = .ok d → (∀ v H' M', Ext T M H M' H' → Rp K mg M' v d → Q v H') → r [x] H Q) : CallD K mg T r (c1 f) := fun xs ds M H Q d s nt rx hf q => by
  cases rx with
  | nil => cases hf
  | cons h1 t1 =>
    cases t1 with
    | nil => exact h _ _ M H Q d s nt h1 hf q
    | cons _ _ => cases hf
theorem nx_c1 {f : D → Out D} (h : ∀ d c, f d ≠ .exc c) : noXN (c1 f) := fun xs c q => by
  unfold c1 at q
  split at q
  · exact h _ _ q
  · cases q
def noX1 (f : D → Out D) : Prop := ∀ d c, f d ≠ .exc c
/-- .. of two -/
def c2 (f : D → D → Out D) : List D → Out D
  | [a, b] => f a b
  | _ => .bad
theorem cd_2 {r : List V → Hp → VK → Prop} {f : D → D → Out D} (h : ∀ x y dx dy M H Q d, Same M H → (NoT T M H) → Rp K mg M x dx → Rp K mg M y dy → f dx dy = .ok d → (∀ v H' M', Ext T M H M' H' → Rp K mg M' v d → Q v H') → r [x, y] H Q) : CallD K mg T r (c2 f) := fun xs ds M H Q d s nt rx hf q => by
  cases rx with
  | nil => cases hf
  | cons h1 t1 =>
    cases t1 with
    | nil => cases hf
    | cons h2 t2 =>
      cases t2 with
      | nil => exact h _ _ _ _ M H Q d s nt h1 h2 hf q
      | cons _ _ => cases hf
theorem nx_c2 {f : D → D → Out D} (h : noX f) : noXN (c2 f) := fun xs c q => by
  unfold c2 at q
  split at q
  · exact h _ _ _ q
  · cases q
/-! ### len -/
def dLen : D → Out D
  | .lst xs => .ok (.int (xs.length : Nat))
  | .tup xs => .ok (.int (xs.length : Nat))
  | .scr ns => .ok (.int (ns.length : Nat))
  | _ => .bad
theorem cd_len : CallD K mg T (fun xs H Q => ∃ p ys, xs = [V.ref p] ∧ (SqL K H p ys ∨ SqT K H p ys) ∧ Q (.int ys.length) H) (c1 dLen) := cd_1 fun x dx M H Q d s nt rx hf q => by
  cases rx with
  | lst ha ra =>
    cases hf
    refine ⟨_, _, rfl, .inl (SqL.of (s _ _ ha)), ?_⟩
    rw [ra.length]
    exact q _ _ _ (Ext.refl s nt) (.int _)
  | tup ha ra =>
    cases hf
    refine ⟨_, _, rfl, .inr (same_sqT s ha), ?_⟩
    rw [ra.length]
    exact q _ _ _ (Ext.refl s nt) (.int _)
  | scr ha =>
    cases hf
    refine ⟨_, _, rfl, .inl (s.seq ha), ?_⟩
    rw [List.length_map]
    exact q _ _ _ (Ext.refl s nt) (.int _)
  | _ => cases hf
theorem nx_len : noX1 dLen := fun d c h => by cases d <;> cases h
/-! ### isinstance -/
def tyN : D → Option String
  | .non => some "NoneType"
  | .bl _ => some "bool"
  | .int _ => some "int"
  | .str _ => some "str"
  | .lst _ => some "list"
  | .tup _ => some "tuple"
  | _ => none
def isiB (a b : String) : Option Bool := match b with
  | "int" => some (a == "int" || a == "bool")
  | "bool" => some (a == "bool")
  | "tuple" => some (a == "tuple")
  | "list" => some (a == "list")
  | _ => none
def dIsi : D → D → Out D
  | x, .ty n => (match tyN x with
    | some a => (match isiB a n with
      | some b => .ok (.bl b)
      | none => .bad)
    | none => .bad)
  | _, _ => .bad
theorem tyX_sqT {a : Addr} {xs : List V} (h : SqT K H a xs) : TyX K H (.ref a) (.type "tuple") := by
  rcases h with (h | ⟨o, h⟩) | ⟨o, its, n, h1, h2, _⟩
  · exact .base (.tup h)
  · exact .fTuple h
  · exact .kTuple h1 h2
theorem cd_isi : CallD K mg T (rIsi K) (c2 dIsi) := cd_2 fun x y dx dy M H Q d s nt rx ry hf q => by
  cases ry with
  | ty n =>
    have fin : ∀ (a : String) (b : Bool), TyX K H x (.type a) → isiB a n = some b → kitB a n = some b → d = .bl b → rIsi K [x, .ty n] H Q := fun a b h1 h2 h3 h4 => by
      subst h4
      exact ⟨x, .ty n, .type a, .type n, b, rfl, .ty n, h1, kit_ty h3, q _ _ _ (Ext.refl s nt) (.bl b)⟩
    have kit : ∀ a b, (a = "NoneType" ∨ a = "bool" ∨ a = "int" ∨ a = "str" ∨ a = "list" ∨ a = "tuple") → isiB a n = some b → kitB a n = some b := fun a b ha h => by
      unfold isiB at h
      split at h
      · cases h
        rcases ha with rfl | rfl | rfl | rfl | rfl | rfl <;> decide +kernel
      · cases h
        rcases ha with rfl | rfl | rfl | rfl | rfl | rfl <;> decide +kernel
      · cases h
        rcases ha with rfl | rfl | rfl | rfl | rfl | rfl <;> decide +kernel
      · cases h
        rcases ha with rfl | rfl | rfl | rfl | rfl | rfl <;> decide +kernel
      · cases h
    have go : ∀ a, tyN dx = some a → TyX K H x (.type a) → (a = "NoneType" ∨ a = "bool" ∨ a = "int" ∨ a = "str" ∨ a = "list" ∨ a = "tuple") → rIsi K [x, .ty n] H Q := fun a h1 h2 h3 => by
      have hf : (match tyN dx with
        | some a => (match isiB a n with
          | some b => Out.ok (D.bl b)
          | none => .bad)
        | none => .bad) = .ok d := hf
      rw [h1] at hf
      cases hb : isiB a n with
      | none =>
        have hf : (match isiB a n with
          | some b => Out.ok (D.bl b)
          | none => .bad) = .ok d := hf
        rw [hb] at hf
        cases hf
      | some b =>
        have hf : (match isiB a n with
          | some b => Out.ok (D.bl b)
          | none => .bad) = .ok d := hf
        rw [hb] at hf
        cases hf
        exact fin a b h2 hb (kit a b h3 hb) rfl
    cases rx with
    | non => exact go "NoneType" rfl (.base .non) (.inl rfl)
    | bl b => exact go "bool" rfl (.base (.bl b)) (.inr (.inl rfl))
    | int i => exact go "int" rfl (.base (.int i)) (.inr (.inr (.inl rfl)))
    | str z => exact go "str" rfl (.base (.str z)) (.inr (.inr (.inr (.inl rfl))))
    | lst ha ra => exact go "list" rfl (.base (.lst (s _ _ ha))) (.inr (.inr (.inr (.inr (.inl rfl)))))
    | tup ha ra => exact go "tuple" rfl (tyX_sqT (same_sqT s ha)) (.inr (.inr (.inr (.inr (.inr rfl)))))
    | _ => cases hf
  | _ => cases hf
theorem nx_isi : noX dIsi := fun a b c h => by
  unfold dIsi at h
  split at h
  · split at h
    · split at h <;> cases h
    · cases h
  · cases h
/-! ### abs, int, list, tuple -/
def dAbs : D → Out D
  | .int i => .ok (.int (if i < 0 then -i else i))
  | _ => .bad
theorem cd_abs : CallD K mg T (fun xs H Q => ∃ i, xs = [V.int i] ∧ Q (.int (if i < 0 then -i else i)) H) (c1 dAbs) := cd_1 fun x dx M H Q d s nt rx hf q => by
  cases rx with
  | int i =>
    cases hf
    exact ⟨i, rfl, q _ _ _ (Ext.refl s nt) (.int _)⟩
  | _ => cases hf
theorem nx_abs : noX1 dAbs := fun d c h => by cases d <;> cases h
def dInt : D → Out D
  | .int i => .ok (.int i)
  | .bl b => .ok (.int (if b then 1 else 0))
  | _ => .bad
theorem cd_int : CallD K mg T (fun xs H Q => (∃ i, xs = [V.int i] ∧ Q (.int i) H) ∨ ∃ k, xs = [V.bl k] ∧ Q (.int (if k then 1 else 0)) H) (c1 dInt) := cd_1 fun x dx M H Q d s nt rx hf q => by
  cases rx with
  | int i =>
    cases hf
    exact .inl ⟨i, rfl, q _ _ _ (Ext.refl s nt) (.int _)⟩
  | bl b =>
    cases hf
    exact .inr ⟨b, rfl, q _ _ _ (Ext.refl s nt) (.int _)⟩
  | _ => cases hf
theorem nx_int : noX1 dInt := fun d c h => by cases d <;> cases h
def dList : D → Out D
  | .lst xs => .ok (.lst xs)
  | .tup xs => .ok (.lst xs)
  | _ => .bad
theorem cd_list : CallD K mg T (fun xs H Q => ∃ p ys, xs = [V.ref p] ∧ (SqL K H p ys ∨ SqT K H p ys) ∧ ∀ l, H l = none → Q (.ref l) (upd H l (.lst ys))) (c1 dList) := cd_1 fun x dx M H Q d s nt rx hf q => by
  cases rx with
  | lst ha ra =>
    cases hf
    refine ⟨_, _, rfl, .inl (SqL.of (s _ _ ha)), fun p hp => ?_⟩
    obtain ⟨M', e, rr⟩ := newLst (T := T) hp s nt ra
    exact q _ _ _ e rr
  | tup ha ra =>
    cases hf
    refine ⟨_, _, rfl, .inr (same_sqT s ha), fun p hp => ?_⟩
    obtain ⟨M', e, rr⟩ := newLst (T := T) hp s nt ra
    exact q _ _ _ e rr
  | _ => cases hf
theorem nx_list : noX1 dList := fun d c h => by cases d <;> cases h
def dTuple : D → Out D
  | .lst xs => .ok (.tup xs)
  | .tup xs => .ok (.tup xs)
  | _ => .bad
theorem cd_tuple : CallD K mg T (fun xs H Q => ∃ p ys, xs = [V.ref p] ∧ ((SqL K H p ys ∧ ∀ l, H l = none → Q (.ref l) (upd H l (.tup ys))) ∨ (SqT K H p ys ∧ Q (.ref p) H))) (c1 dTuple) := cd_1 fun x dx M H Q d s nt rx hf q => by
  cases rx with
  | lst ha ra =>
    cases hf
    refine ⟨_, _, rfl, .inl ⟨SqL.of (s _ _ ha), fun p hp => ?_⟩⟩
    obtain ⟨M', e, rr⟩ := newTup (T := T) hp s nt ra
    exact q _ _ _ e rr
  | tup ha ra =>
    cases hf
    exact ⟨_, _, rfl, .inr ⟨same_sqT s ha, q _ _ _ (Ext.refl s nt) (.tup ha ra)⟩⟩
  | _ => cases hf
theorem nx_tuple : noX1 dTuple := fun d c h => by cases d <;> cases h
/-! ### lists of whole numbers, of truths -/
def toInts : List D → Option (List Int)
  | [] => some []
  | .int i :: ds => (toInts ds).map (i :: ·)
  | _ => none
def toBools : List D → Option (List Bool)
  | [] => some []
  | .bl i :: ds => (toBools ds).map (i :: ·)
  | _ => none
theorem toInts_map : ∀ ns : List Int, toInts (ns.map D.int) = some ns
  | [] => rfl
  | n :: ns => by simp [toInts, toInts_map ns]
theorem toBools_map : ∀ ns : List Bool, toBools (ns.map D.bl) = some ns
  | [] => rfl
  | n :: ns => by simp [toBools, toBools_map ns]
theorem toInts_rp : ∀ {ds : List D} {vs : List V} {ns : List Int}, RpL K mg M vs ds → toInts ds = some ns → vs = ns.map V.int
  | _, _, ns, .nil, h => by cases h; rfl
  | .int i :: ds, _, ns, .cons (.int _) r, h => by
    unfold toInts at h
    cases q : toInts ds with
    | none => rw [q] at h; cases h
    | some ms =>
      rw [q] at h
      cases h
      rw [toInts_rp r q]
      rfl
  | .non :: _, _, _, .cons .non _, h => by cases h
  | .bl _ :: _, _, _, .cons (.bl _) _, h => by cases h
  | .str _ :: _, _, _, .cons (.str _) _, h => by cases h
  | .lst _ :: _, _, _, .cons (.lst _ _) _, h => by cases h
  | .tup _ :: _, _, _, .cons (.tup _ _) _, h => by cases h
  | .fn _ :: _, _, _, .cons (.fn _) _, h => by cases h
  | .ty _ :: _, _, _, .cons (.ty _) _, h => by cases h
  | .scr _ :: _, _, _, .cons (.scr _) _, h => by cases h
  | .opq _ :: _, _, _, .cons (.opq _) _, h => by cases h
theorem toBools_rp : ∀ {ds : List D} {vs : List V} {ns : List Bool}, RpL K mg M vs ds → toBools ds = some ns → vs = ns.map V.bl
  | _, _, ns, .nil, h => by cases h; rfl
  | .bl i :: ds, _, ns, .cons (.bl _) r, h => by
    unfold toBools at h
    cases q : toBools ds with
    | none => rw [q] at h; cases h
    | some ms =>
      rw [q] at h
      cases h
      rw [toBools_rp r q]
      rfl
  | .non :: _, _, _, .cons .non _, h => by cases h
  | .int _ :: _, _, _, .cons (.int _) _, h => by cases h
  | .str _ :: _, _, _, .cons (.str _) _, h => by cases h
  | .lst _ :: _, _, _, .cons (.lst _ _) _, h => by cases h
  | .tup _ :: _, _, _, .cons (.tup _ _) _, h => by cases h
  | .fn _ :: _, _, _, .cons (.fn _) _, h => by cases h
  | .ty _ :: _, _, _, .cons (.ty _) _, h => by cases h
  | .scr _ :: _, _, _, .cons (.scr _) _, h => by cases h
  | .opq _ :: _, _, _, .cons (.opq _) _, h => by cases h
def onInts (f : List Int → Out D) : D → Out D
  | .lst xs => (match toInts xs with
    | some ns => f ns
    | none => .bad)
  | _ => .bad
def onBools (f : List Bool → Out D) : D → Out D
  | .lst xs => (match toBools xs with
    | some ns => f ns
    | none => .bad)
  | _ => .bad
theorem onInts_map {f : List Int → Out D} {ns : List Int} : onInts f (.lst (ns.map D.int)) = f ns := by
  show (match toInts (ns.map D.int) with | some ns => f ns | none => .bad) = f ns
  rw [toInts_map]
theorem onBools_map {f : List Bool → Out D} {ns : List Bool} : onBools f (.lst (ns.map D.bl)) = f ns := by
  show (match toBools (ns.map D.bl) with | some ns => f ns | none => .bad) = f ns
  rw [toBools_map]
theorem cd_ints {r : List V → Hp → VK → Prop} {f : List Int → Out D} (h : ∀ a ns M H Q d, Same M H → (NoT T M H) → M a = some (.lst (ns.map V.int)) → f ns = .ok d → (∀ v H' M', Ext T M H M' H' → Rp K mg M' v d → Q v H') → r [.ref a] H Q) : CallD K mg T r (c1 (onInts f)) := cd_1 fun x dx M H Q d s nt rx hf q => by
  cases rx with
  | @lst a vs xs ha ra =>
    have hf : (match toInts xs with | some ns => f ns | none => .bad) = .ok d := hf
    cases e : toInts xs with
    | none => rw [e] at hf; cases hf
    | some ns =>
      rw [e] at hf
      have ev := toInts_rp ra e
      subst ev
      exact h a ns M H Q d s nt ha hf q
  | _ => cases hf
theorem cd_bools {r : List V → Hp → VK → Prop} {f : List Bool → Out D} (h : ∀ a ns M H Q d, Same M H → (NoT T M H) → M a = some (.lst (ns.map V.bl)) → f ns = .ok d → (∀ v H' M', Ext T M H M' H' → Rp K mg M' v d → Q v H') → r [.ref a] H Q) : CallD K mg T r (c1 (onBools f)) := cd_1 fun x dx M H Q d s nt rx hf q => by
  cases rx with
  | @lst a vs xs ha ra =>
    have hf : (match toBools xs with | some ns => f ns | none => .bad) = .ok d := hf
    cases e : toBools xs with
    | none => rw [e] at hf; cases hf
    | some ns =>
      rw [e] at hf
      have ev := toBools_rp ra e
      subst ev
      exact h a ns M H Q d s nt ha hf q
  | _ => cases hf
theorem nx_onInts {f : List Int → Out D} (h : ∀ ns c, f ns ≠ .exc c) : noX1 (onInts f) := fun d c q => by
  unfold onInts at q
  split at q
  · split at q
    · exact h _ _ q
    · cases q
  · cases q
theorem nx_onBools {f : List Bool → Out D} (h : ∀ ns c, f ns ≠ .exc c) : noX1 (onBools f) := fun d c q => by
  unfold onBools at q
  split at q
  · split at q
    · exact h _ _ q
    · cases q
  · cases q
def minL : List Int → Int
  | [] => 0
  | n :: ns => ns.foldl (fun a b => if b < a then b else a) n
def maxL : List Int → Int
  | [] => 0
  | n :: ns => ns.foldl (fun a b => if b > a then b else a) n
theorem foldMin (ns : List Int) : ∀ n, let m := ns.foldl (fun a b => if b < a then b else a) n; (m = n ∨ m ∈ ns) ∧ m ≤ n ∧ ∀ y ∈ ns, m ≤ y := by
  induction ns with
  | nil => intro n; exact ⟨.inl rfl, Int.le_refl _, fun y hy => by cases hy⟩
  | cons a ns ih =>
    intro n
    have h := ih (if a < n then a else n)
    simp only [List.foldl_cons]
    generalize hz : (if a < n then a else n) = z at h ⊢
    have hz1 : z ≤ a ∧ z ≤ n := by split at hz <;> omega
    obtain ⟨h1, h2, h3⟩ := h
    refine ⟨?_, ?_, fun y hy => ?_⟩
    · rcases h1 with h1 | h1
      · rw [h1, ← hz]
        split
        · exact .inr List.mem_cons_self
        · exact .inl rfl
      · exact .inr (List.mem_cons_of_mem _ h1)
    · omega
    · rcases List.mem_cons.mp hy with e | e
      · subst e
        omega
      · exact h3 y e
theorem foldMax (ns : List Int) : ∀ n, let m := ns.foldl (fun a b => if b > a then b else a) n; (m = n ∨ m ∈ ns) ∧ n ≤ m ∧ ∀ y ∈ ns, y ≤ m := by
  induction ns with
  | nil => intro n; exact ⟨.inl rfl, Int.le_refl _, fun y hy => by cases hy⟩
  | cons a ns ih =>
    intro n
    have h := ih (if a > n then a else n)
    simp only [List.foldl_cons]
    generalize hz : (if a > n then a else n) = z at h ⊢
    have hz1 : a ≤ z ∧ n ≤ z := by split at hz <;> omega
    obtain ⟨h1, h2, h3⟩ := h
    refine ⟨?_, ?_, fun y hy => ?_⟩
    · rcases h1 with h1 | h1
      · rw [h1, ← hz]
        split
        · exact .inr List.mem_cons_self
        · exact .inl rfl
      · exact .inr (List.mem_cons_of_mem _ h1)
    · omega
    · rcases List.mem_cons.mp hy with e | e
      · subst e
        omega
      · exact h3 y e
theorem minL_spec {ns : List Int} (h : ns ≠ []) : minL ns ∈ ns ∧ ∀ y ∈ ns, minL ns ≤ y := by
  cases ns with
  | nil => exact absurd rfl h
  | cons n ns =>
    obtain ⟨h1, h2, h3⟩ := foldMin ns n
    refine ⟨?_, fun y hy => ?_⟩
    · rcases h1 with e | e
      · exact List.mem_cons.mpr (.inl e)
      · exact List.mem_cons_of_mem _ e
    · rcases List.mem_cons.mp hy with e | e
      · subst e; exact h2
      · exact h3 y e
theorem maxL_spec {ns : List Int} (h : ns ≠ []) : maxL ns ∈ ns ∧ ∀ y ∈ ns, y ≤ maxL ns := by
  cases ns with
  | nil => exact absurd rfl h
  | cons n ns =>
    obtain ⟨h1, h2, h3⟩ := foldMax ns n
    refine ⟨?_, fun y hy => ?_⟩
    · rcases h1 with e | e
      · exact List.mem_cons.mpr (.inl e)
      · exact List.mem_cons_of_mem _ e
    · rcases List.mem_cons.mp hy with e | e
      · subst e; exact h2
      · exact h3 y e
def fMin (ns : List Int) : Out D := if ns.isEmpty then .bad else .ok (.int (minL ns))
def fMax (ns : List Int) : Out D := if ns.isEmpty then .bad else .ok (.int (maxL ns))
def dMin : D → Out D := onInts fMin
def dMax : D → Out D := onInts fMax
def dSum : D → Out D := onInts fun ns => .ok (.int ns.sum)
def dAll : D → Out D := onBools fun bs => .ok (.bl (bs.all id))
def dAny : D → Out D := onBools fun bs => .ok (.bl (bs.any id))
theorem cd_sum : CallD K mg T (rSum K) (c1 dSum) := cd_ints fun a ns M H Q d s nt ha hf q => by
  cases hf
  exact ⟨a, ns, rfl, SqL.of (s _ _ ha), q _ _ _ (Ext.refl s nt) (.int _)⟩
theorem nx_sum : noX1 dSum := nx_onInts fun _ _ h => by cases h
theorem cd_all : CallD K mg T (rAll K) (c1 dAll) := cd_bools fun a ns M H Q d s nt ha hf q => by
  cases hf
  exact ⟨a, ns, rfl, SqL.of (s _ _ ha), q _ _ _ (Ext.refl s nt) (.bl _)⟩
theorem nx_all : noX1 dAll := nx_onBools fun _ _ h => by cases h
theorem cd_any : CallD K mg T (rAny K) (c1 dAny) := cd_bools fun a ns M H Q d s nt ha hf q => by
  cases hf
  exact ⟨a, ns, rfl, SqL.of (s _ _ ha), q _ _ _ (Ext.refl s nt) (.bl _)⟩
theorem nx_any : noX1 dAny := nx_onBools fun _ _ h => by cases h
theorem cd_min : CallD K mg T (rMin K) (c1 dMin) := cd_ints fun a ns M H Q d s nt ha hf q => by
  unfold fMin at hf
  split at hf
  · cases hf
  · rename_i hne
    cases hf
    have hn : ns ≠ [] := fun z => by subst z; exact hne rfl
    refine ⟨a, ns, rfl, SqL.of (s _ _ ha), List.length_pos_iff.mpr hn, fun m hm hle => ?_⟩
    obtain ⟨k1, k2⟩ := minL_spec hn
    have e : m = minL ns := by
      have a1 := hle _ k1
      have a2 := k2 _ hm
      omega
    subst e
    exact q _ _ _ (Ext.refl s nt) (.int _)
theorem nx_min : noX1 dMin := nx_onInts fun ns c h => by unfold fMin at h; split at h <;> cases h
theorem cd_max : CallD K mg T (rMax K) (c1 dMax) := cd_ints fun a ns M H Q d s nt ha hf q => by
  unfold fMax at hf
  split at hf
  · cases hf
  · rename_i hne
    cases hf
    have hn : ns ≠ [] := fun z => by subst z; exact hne rfl
    refine ⟨a, ns, rfl, SqL.of (s _ _ ha), List.length_pos_iff.mpr hn, fun m hm hle => ?_⟩
    obtain ⟨k1, k2⟩ := maxL_spec hn
    have e : m = maxL ns := by
      have a1 := hle _ k1
      have a2 := k2 _ hm
      omega
    subst e
    exact q _ _ _ (Ext.refl s nt) (.int _)
theorem nx_max : noX1 dMax := nx_onInts fun ns c h => by unfold fMax at h; split at h <;> cases h
def dMax2 : D → D → Out D := i2 (fun _ _ => true) fun i j => .int (if j > i then j else i)
def dMin2 : D → D → Out D := i2 (fun _ _ => true) fun i j => .int (if j < i then j else i)
theorem cd_max2 : CallD K mg T (fun xs H Q => ∃ i j, xs = [V.int i, V.int j] ∧ Q (.int (if j > i then j else i)) H) (c2 dMax2) := cd_2 fun x y dx dy M H Q d s nt rx ry hf q => by
  obtain ⟨i, j, rfl, rfl, _, rfl⟩ := i2_ok hf
  cases rx
  cases ry
  exact ⟨i, j, rfl, q _ _ _ (Ext.refl s nt) (.int _)⟩
theorem cd_min2 : CallD K mg T (fun xs H Q => ∃ i j, xs = [V.int i, V.int j] ∧ Q (.int (if j < i then j else i)) H) (c2 dMin2) := cd_2 fun x y dx dy M H Q d s nt rx ry hf q => by
  obtain ⟨i, j, rfl, rfl, _, rfl⟩ := i2_ok hf
  cases rx
  cases ry
  exact ⟨i, j, rfl, q _ _ _ (Ext.refl s nt) (.int _)⟩
/-! ### in, not in -/
def inD (x : D) (ys : List D) : Bool := ys.any fun y => eqv y x
def flat : D → Bool
  | .non => true
  | .bl _ => true
  | .int _ => true
  | .str _ => true
  | _ => false
def inOk (x : D) : D → Bool
  | .lst ys => gd 8 x && gd 8 (.lst ys)
  | .tup ys => flat x && ys.all flat
  | _ => false
def seqD : D → List D
  | .lst ys => ys
  | .tup ys => ys
  | _ => []
def dIn (x y : D) : Out D := if inOk x y = true then .ok (.bl (inD x (seqD y))) else .bad
def dNotIn (x y : D) : Out D := if inOk x y = true then .ok (.bl (!inD x (seqD y))) else .bad
theorem nx_in : noX dIn := fun a b c h => by unfold dIn at h; split at h <;> cases h
theorem nx_notIn : noX dNotIn := fun a b c h => by unfold dNotIn at h; split at h <;> cases h
theorem eqV_eqv {v w : V} {a b : D} (ra : Rp K mg M v a) (rb : Rp K mg M w b) (fa : flat a = true) (fb : flat b = true) : flatV v = true ∧ flatV w = true ∧ eqV v w = eqv a b := by
  cases ra with
  | non => cases rb <;> first | exact ⟨rfl, rfl, rfl⟩ | cases fb
  | bl x => cases rb <;> first | exact ⟨rfl, rfl, rfl⟩ | cases fb
  | int x => cases rb <;> first | exact ⟨rfl, rfl, rfl⟩ | cases fb
  | str x => cases rb <;> first | exact ⟨rfl, rfl, rfl⟩ | cases fb
  | _ => cases fa
theorem inV_inD {x : V} {d : D} (rx : Rp K mg M x d) (fx : flat d = true) : ∀ {vs : List V} {ds : List D}, RpL K mg M vs ds → ds.all flat = true → vs.all flatV = true ∧ inV x vs = inD d ds
  | _, _, .nil, _ => ⟨rfl, rfl⟩
  | _ :: vs, _ :: ds, .cons h r, f => by
    rw [List.all_cons, Bool.and_eq_true] at f
    obtain ⟨h1, h2, h3⟩ := eqV_eqv h rx f.1 fx
    obtain ⟨k1, k2⟩ := inV_inD rx fx r f.2
    refine ⟨by rw [List.all_cons, h1, k1]; rfl, ?_⟩
    unfold inV inD at k2 ⊢
    rw [List.any_cons, List.any_cons, h3, k2]
def rInA (K : PySem.W.Frag) : R2 := fun x y H Q => rIn K false x y H Q ∨ rInD K x y H Q
def rNotInA (K : PySem.W.Frag) : R2 := fun x y H Q => rIn K true x y H Q ∨ rNotInD K x y H Q
theorem op_inA (hu : X.A.units + 65 < cLine) : OpR X (compareOp .In) (rInA X.K) := op_in_seq.or (op_inD hu)
theorem op_notInA (hu : X.A.units + 65 < cLine) : OpR X (compareOp .NotIn) (rNotInA X.K) := op_notIn_seq.or (op_notInD hu)
theorem any_pyL (x : D) : ∀ ys : List D, ((D.pyL ys).any fun z => PyData.eqv z x.py) = inD x ys
  | [] => rfl
  | y :: ys => by
    have h := any_pyL x ys
    unfold inD at h ⊢
    simp only [D.pyL, List.any_cons, h]
    rfl
theorem od_in : OpD K mg T (rInA K) dIn := fun x y dx dy M H Q d s nt rx ry h q => by
  unfold dIn at h
  by_cases ho : inOk dx dy = true
  · rw [if_pos ho] at h
    cases h
    cases ry with
    | @lst a vs ys ha ra =>
      have ho : (gd 8 dx && gd 8 (.lst ys)) = true := ho
      rw [Bool.and_eq_true] at ho
      have dl := Rp.dp (n := 8) s (Rp.lst (mg := mg) (K := K) ha ra) ho.2
      have sl := gd_shaped ho.2
      unfold D.py at dl sl
      refine .inr ⟨dx.py, D.pyL ys, rx.dp s ho.1, dl, gd_shaped ho.1, sl, ?_⟩
      rw [any_pyL]
      exact q _ _ _ (Ext.refl s nt) (.bl _)
    | @tup a vs ys ha ra =>
      have ho : (flat dx && ys.all flat) = true := ho
      rw [Bool.and_eq_true] at ho
      obtain ⟨k1, k2⟩ := inV_inD rx ho.1 ra ho.2
      have fx : flatV x = true := (eqV_eqv rx rx ho.1 ho.1).1
      refine .inl ⟨a, vs, rfl, .inr (same_sqT s ha), fx, k1, ?_⟩
      show Q (.bl (inV x vs)) H
      rw [k2]
      exact q _ _ _ (Ext.refl s nt) (.bl _)
    | _ => cases ho
  · rw [if_neg ho] at h
    cases h
theorem od_notIn : OpD K mg T (rNotInA K) dNotIn := fun x y dx dy M H Q d s nt rx ry h q => by
  unfold dNotIn at h
  by_cases ho : inOk dx dy = true
  · rw [if_pos ho] at h
    cases h
    cases ry with
    | @lst a vs ys ha ra =>
      have ho : (gd 8 dx && gd 8 (.lst ys)) = true := ho
      rw [Bool.and_eq_true] at ho
      have dl := Rp.dp (n := 8) s (Rp.lst (mg := mg) (K := K) ha ra) ho.2
      have sl := gd_shaped ho.2
      unfold D.py at dl sl
      refine .inr ⟨dx.py, D.pyL ys, rx.dp s ho.1, dl, gd_shaped ho.1, sl, ?_⟩
      rw [any_pyL]
      exact q _ _ _ (Ext.refl s nt) (.bl _)
    | @tup a vs ys ha ra =>
      have ho : (flat dx && ys.all flat) = true := ho
      rw [Bool.and_eq_true] at ho
      obtain ⟨k1, k2⟩ := inV_inD rx ho.1 ra ho.2
      have fx : flatV x = true := (eqV_eqv rx rx ho.1 ho.1).1
      refine .inl ⟨a, vs, rfl, .inr (same_sqT s ha), fx, k1, ?_⟩
      show Q (.bl (!inV x vs)) H
      rw [k2]
      exact q _ _ _ (Ext.refl s nt) (.bl _)
    | _ => cases ho
  · rw [if_neg ho] at h
    cases h
/-! ### < of tuples; is -/
def dLt : D → D → Out D
  | .int i, .int j => .ok (.bl (decide (i < j)))
  | .tup xs, .tup ys => (match toInts xs, toInts ys with
    | some ns, some ms => .ok (.bl (HT.lexLt ns ms))
    | _, _ => .bad)
  | _, _ => .bad
theorem nx_lt : noX dLt := fun a b c h => by
  unfold dLt at h
  split at h
  · cases h
  · split at h <;> cases h
  · cases h
def rLtA (K : PySem.W.Frag) : R2 := fun x y H Q => rI0 (fun i j => .bl (decide (i < j))) x y H Q ∨ rLtT K x y H Q
theorem op_ltA (hu : X.A.units < cLine) : OpR X (compareOp .Lt) (rLtA X.K) := op_lt.or (op_ltT hu)
theorem od_lt : OpD K mg T (rLtA K) dLt := fun x y dx dy M H Q d s nt rx ry h q => by
  cases rx with
  | int i =>
    cases ry with
    | int j =>
      cases h
      exact .inl ⟨i, j, rfl, rfl, q _ _ _ (Ext.refl s nt) (.bl _)⟩
    | _ => cases h
  | @tup a vs xs ha ra =>
    cases ry with
    | @tup b ws ys hb rb =>
      have h : (match toInts xs, toInts ys with | some ns, some ms => Out.ok (D.bl (HT.lexLt ns ms)) | _, _ => .bad) = .ok d := h
      cases e1 : toInts xs with
      | none => rw [e1] at h; cases h
      | some ns =>
        cases e2 : toInts ys with
        | none => rw [e1, e2] at h; cases h
        | some ms =>
          rw [e1, e2] at h
          cases h
          have v1 := toInts_rp ra e1
          have v2 := toInts_rp rb e2
          subst v1 v2
          exact .inr ⟨a, b, ns, ms, rfl, rfl, same_sqT s ha, same_sqT s hb, q _ _ _ (Ext.refl s nt) (.bl _)⟩
    | _ => cases h
  | _ => cases ry <;> cases h
def isNon : D → Bool
  | .non => true
  | _ => false
def dIsN (x y : D) : Out D := match y with
  | .non => .ok (.bl (isNon x))
  | _ => .bad
def dNotN (x y : D) : Out D := match y with
  | .non => .ok (.bl (!isNon x))
  | _ => .bad
theorem isNon_rp {v : V} {d : D} (r : Rp K mg M v d) : decide (v = .non) = isNon d := by
  cases r <;> first | rfl | exact decide_eq_false (fun z => by cases z)
theorem od_isN : OpD K mg T (fun x y H Q => y = .non ∧ Q (.bl (decide (x = .non))) H) dIsN := fun x y dx dy M H Q d s nt rx ry h q => by
  cases ry with
  | non =>
    cases h
    refine ⟨rfl, ?_⟩
    rw [isNon_rp rx]
    exact q _ _ _ (Ext.refl s nt) (.bl _)
  | _ => cases h
theorem od_notN : OpD K mg T (fun x y H Q => y = .non ∧ Q (.bl (!decide (x = .non))) H) dNotN := fun x y dx dy M H Q d s nt rx ry h q => by
  cases ry with
  | non =>
    cases h
    refine ⟨rfl, ?_⟩
    rw [isNon_rp rx]
    exact q _ _ _ (Ext.refl s nt) (.bl _)
  | _ => cases h
theorem nx_isN : noX dIsN := fun a b c h => by unfold dIsN at h; split at h <;> cases h
theorem nx_notN : noX dNotN := fun a b c h => by unfold dNotN at h; split at h <;> cases h
def dIsB : D → D → Out D
  | .bl a, .bl b => .ok (.bl (decide (a = b)))
  | _, _ => .bad
def dNotB : D → D → Out D
  | .bl a, .bl b => .ok (.bl (!decide (a = b)))
  | _, _ => .bad
theorem od_isB : OpD K mg T (fun x y H Q => ∃ a b, x = .bl a ∧ y = .bl b ∧ Q (.bl (decide (a = b))) H) dIsB := fun x y dx dy M H Q d s nt rx ry h q => by
  cases rx with
  | bl a =>
    cases ry with
    | bl b =>
      cases h
      exact ⟨a, b, rfl, rfl, q _ _ _ (Ext.refl s nt) (.bl _)⟩
    | _ => cases h
  | _ => cases ry <;> cases h
theorem od_notB : OpD K mg T (fun x y H Q => ∃ a b, x = .bl a ∧ y = .bl b ∧ Q (.bl (!decide (a = b))) H) dNotB := fun x y dx dy M H Q d s nt rx ry h q => by
  cases rx with
  | bl a =>
    cases ry with
    | bl b =>
      cases h
      exact ⟨a, b, rfl, rfl, q _ _ _ (Ext.refl s nt) (.bl _)⟩
    | _ => cases h
  | _ => cases ry <;> cases h
theorem nx_isB : noX dIsB := fun a b c h => by unfold dIsB at h; split at h <;> cases h
theorem nx_notB : noX dNotB := fun a b c h => by unfold dNotB at h; split at h <;> cases h
def dNeg : D → Out D
  | .int i => .ok (.int (-i))
  | _ => .bad
theorem e_neg {a : Expr} {m : Env → Out D} {pos : Pos} (h : PEm X T E a m) : PEm X T E (.UnaryOp .USub a pos) (m1 dNeg m) := weakE (pe_un un_neg h) fun σ H Q h => by
  obtain ⟨Γ, M, H0, r, f⟩ := h
  refine ⟨Γ, M, H0, r, Fin.bind f fun d v H1 M1 _ e1 r1 f1 => ?_⟩
  cases r1 with
  | int i => exact ⟨i, rfl, f1 _ _ _ (r.ext e1).ext0 (.int _)⟩
  | _ => exact f1.elim
/-! ### chains a < b < c -/
def mChain (f g : D → D → Out D) (a b c : Env → Out D) : Env → Out D := fun Γ => (a Γ).bind fun x => (b Γ).bind fun y => (f x y).bind fun k => match k with
  | .bl true => (c Γ).bind (g y)
  | .bl false => .ok (.bl false)
  | _ => .bad
theorem tChain_of {r r' : R2} {f g : D → D → Out D} {a b c : Env → Out D} (hd : OpD K mg T r f) (hx : noX f) (hd' : OpD K mg T r' g) (hx' : noX g) {Q : VK} (h : tOf K mg T E (mChain f g a b c) σ H Q) : tChain r r' (tOf K mg T E a) (tOf K mg T E b) (tOf K mg T E c) σ H Q := by
  obtain ⟨Γ, M, H0, rs, fn⟩ := h
  refine ⟨Γ, M, H0, rs, Fin.bind fn fun x v H1 M1 _ e1 r1 f1 => ?_⟩
  refine ⟨Γ, M1, H0, rs.ext e1, Fin.bind f1 fun y v2 H2 M2 _ e2 r2 f2 => ?_⟩
  have rs2 := (rs.ext e1).ext e2
  cases q : f x y with
  | exc c => exact absurd q (hx x y c)
  | bad =>
    rw [q] at f2
    exact f2.elim
  | ok k =>
    rw [q] at f2
    refine hd v v2 x y M2 H2 _ k rs2.ms rs2.nt (r1.mono e2.mm) r2 q fun w H3 M3 e3 r3 => ?_
    cases r3 with
    | bl b =>
      refine ⟨b, rfl, ?_⟩
      have rs3 := rs2.ext e3
      cases b with
      | false => exact f2 _ _ _ e3 (.bl false)
      | true =>
        refine iteT ⟨Γ, M3, H0, rs3, Fin.bind (Fin.up f2 e3) fun z v4 H4 M4 _ e4 r4 f4 => ?_⟩
        have rs4 := rs3.ext e4
        cases q5 : g y z with
        | exc c => exact absurd q5 (hx' y z c)
        | bad =>
          rw [q5] at f4
          exact f4.elim
        | ok k5 =>
          rw [q5] at f4
          exact hd' v2 v4 y z M4 H4 Q k5 rs4.ms rs4.nt (r2.mono (e3.mm.trans e4.mm)) r4 q5 f4
    | _ => exact f2.elim

theorem e_chain {op op' : CmpOp} {r r' : R2} {f g : D → D → Out D} {a b c : Expr} {ma mb mc : Env → Out D} {pos : Pos} (ho : OpR X (compareOp op) r) (hd : OpD X.K X.mg T r f) (hx : noX f) (ho' : OpR X (compareOp op') r') (hd' : OpD X.K X.mg T r' g) (hx' : noX g) (ha : PEm X T E a ma) (hb : PEm X T E b mb) (hc : PEm X T E c mc)
    (hm : lastMarks [op, op'] [b, c] = false := by with_unfolding_all rfl) : PEm X T E (.Compare a [op, op'] [b, c] pos) (mChain f g ma mb mc) := weakE (pe_chain ho ho' ha hb hc hm) fun _ _ _ h => tChain_of hd hx hd' hx' h
theorem t_chain {op op' : CmpOp} {r r' : R2} {f g : D → D → Out D} {a b c : Expr} {ma mb mc : Env → Out D} {pos : Pos} (ho : OpR X (compareOp op) r) (hd : OpD X.K X.mg T r f) (hx : noX f) (ho' : OpR X (compareOp op') r') (hd' : OpD X.K X.mg T r' g) (hx' : noX g) (ha : PEm X T E a ma) (hb : PEm X T E b mb) (hc : PEm X T E c mc)
    (hm : lastMarks [op, op'] [b, c] = false := by with_unfolding_all rfl) : PTm X T E (.Compare a [op, op'] [b, c] pos) (mT (mChain f g ma mb mc)) := weakT (pt_chain ho ho' ha hb hc hm) fun _ _ _ h => tChain_of hd hx hd' hx' (tB_of h)
end FL
set_option Elab.async false
set_option linter.all false
set_option maxRecDepth 100000
set_option maxHeartbeats 2000000
namespace FL
open PySem PySem.Spec PyProof.Rows L2 LamX
variable {K : PySem.W.Frag} {mg : Str → Option Value} {T : Tb} {H0 M0 M M' M1 M2 H H' H1 H2 : Hp} {Γ Γ' : Env} {σ σ' : L2.St} {E : XK} {X : Cx}
variable {a b c : Expr} {ma mb mc : Env → Out D} {ms : Env → Out (List D)} {pos p : Pos}

/-! ### the rules by short names -/
theorem e_add (ha : PEm X T E a ma) (hb : PEm X T E b mb) : PEm X T E (.BinOp a .Add b pos) (m2 dAdd ma mb) := e_op op_addA od_add nx_add ha hb
theorem e_sub (ha : PEm X T E a ma) (hb : PEm X T E b mb) : PEm X T E (.BinOp a .Sub b pos) (m2 dSub ma mb) := e_op op_sub od_sub nx_i2 ha hb
theorem e_mul (ha : PEm X T E a ma) (hb : PEm X T E b mb) : PEm X T E (.BinOp a .Mult b pos) (m2 dMul ma mb) := e_op op_mulA od_mul nx_mul ha hb
theorem e_div (ha : PEm X T E a ma) (hb : PEm X T E b mb) : PEm X T E (.BinOp a .FloorDiv b pos) (m2 dDiv ma mb) := e_op op_fdivW od_div nx_i2 ha hb
theorem e_mod (ha : PEm X T E a ma) (hb : PEm X T E b mb) : PEm X T E (.BinOp a .Mod b pos) (m2 dMod ma mb) := e_op op_mod od_mod nx_i2 ha hb
theorem e_pow (ha : PEm X T E a ma) (hb : PEm X T E b mb) : PEm X T E (.BinOp a .Pow b pos) (m2 dPow ma mb) := e_op op_pow od_pow nx_i2 ha hb
theorem e_shl (ha : PEm X T E a ma) (hb : PEm X T E b mb) : PEm X T E (.BinOp a .LShift b pos) (m2 dShl ma mb) := e_op op_shl od_shl nx_i2 ha hb
theorem e_band (ha : PEm X T E a ma) (hb : PEm X T E b mb) : PEm X T E (.BinOp a .BitAnd b pos) (m2 dAndI ma mb) := e_op op_and od_and nx_i2 ha hb
theorem e_xor (ha : PEm X T E a ma) (hb : PEm X T E b mb) : PEm X T E (.BinOp a .BitXor b pos) (m2 dXorI ma mb) := e_op op_xor od_xor nx_i2 ha hb
/-- comparisons: kinds -/
inductive Cm (X : Cx) (T : Tb) : CmpOp → (D → D → Out D) → Prop
  | mk {op : CmpOp} {r : R2} {f : D → D → Out D} (ho : OpR X (compareOp op) r) (hd : OpD X.K X.mg T r f) (hx : noX f) : Cm X T op f
theorem c_eq {k : Nat} (hr : Room k X.A) : Cm X T .Eq dEq := ⟨op_eqD hr.units, od_eq, nx_eq⟩
theorem c_ne {k : Nat} (hr : Room k X.A) : Cm X T .NotEq dNe := ⟨op_neD hr.units, od_ne, nx_ne⟩
theorem c_lt {k : Nat} (hr : Room k X.A) : Cm X T .Lt dLt := ⟨op_ltA hr.units0, od_lt, nx_lt⟩
theorem c_le : Cm X T .LtE dLe := ⟨op_le, od_le, nx_i2⟩
theorem c_gt : Cm X T .Gt dGt := ⟨op_gt, od_gt, nx_i2⟩
theorem c_ge : Cm X T .GtE dGe := ⟨op_ge, od_ge, nx_i2⟩
theorem c_in {k : Nat} (hr : Room k X.A) : Cm X T .In dIn := ⟨op_inA (by have := hr.un; omega), od_in, nx_in⟩
theorem c_notIn {k : Nat} (hr : Room k X.A) : Cm X T .NotIn dNotIn := ⟨op_notInA (by have := hr.un; omega), od_notIn, nx_notIn⟩
theorem c_isN : Cm X T .Is dIsN := ⟨op_isN, od_isN, nx_isN⟩
theorem c_notN : Cm X T .IsNot dNotN := ⟨op_notN, od_notN, nx_notN⟩
theorem c_isB : Cm X T .Is dIsB := ⟨op_is_bl, od_isB, nx_isB⟩
theorem c_notB : Cm X T .IsNot dNotB := ⟨op_isnot_bl, od_notB, nx_notB⟩
theorem e_cm {op : CmpOp} {f : D → D → Out D} (k : Cm X T op f) (ha : PEm X T E a ma) (hb : PEm X T E b mb) (hm : behindInMarks op b = false := by rfl) : PEm X T E (.Compare a [op] [b] pos) (m2 f ma mb) := by
  obtain ⟨ho, hd, hx⟩ := k
  exact e_cmp ho hd hx ha hb hm
theorem t_cm {op : CmpOp} {f : D → D → Out D} (k : Cm X T op f) (ha : PEm X T E a ma) (hb : PEm X T E b mb) (hm : behindInMarks op b = false := by rfl) : PTm X T E (.Compare a [op] [b] pos) (mT (m2 f ma mb)) := by
  obtain ⟨ho, hd, hx⟩ := k
  exact t_cmp ho hd hx ha hb hm
theorem e_ch {op op' : CmpOp} {f g : D → D → Out D} (k : Cm X T op f) (k' : Cm X T op' g) (ha : PEm X T E a ma) (hb : PEm X T E b mb) (hc : PEm X T E c mc) (hm : lastMarks [op, op'] [b, c] = false := by with_unfolding_all rfl) : PEm X T E (.Compare a [op, op'] [b, c] pos) (mChain f g ma mb mc) := by
  obtain ⟨ho, hd, hx⟩ := k
  obtain ⟨ho', hd', hx'⟩ := k'
  exact e_chain ho hd hx ho' hd' hx' ha hb hc hm
theorem t_ch {op op' : CmpOp} {f g : D → D → Out D} (k : Cm X T op f) (k' : Cm X T op' g) (ha : PEm X T E a ma) (hb : PEm X T E b mb) (hc : PEm X T E c mc) (hm : lastMarks [op, op'] [b, c] = false := by with_unfolding_all rfl) : PTm X T E (.Compare a [op, op'] [b, c] pos) (mT (mChain f g ma mb mc)) := by
  obtain ⟨ho, hd, hx⟩ := k
  obtain ⟨ho', hd', hx'⟩ := k'
  exact t_chain ho hd hx ho' hd' hx' ha hb hc hm
/-- built-ins: the name, what it does -/
inductive Bt (X : Cx) (T : Tb) : Str → (List D → Out D) → Prop
  | fn {x : Str} {id : String} {r : List V → Hp → VK → Prop} {f : List D → Out D} (hc : CallR X (.builtin id) r) (hd : CallD X.K X.mg T r f) (hx : noXN f) (hm : X.mg x = none) (hv : bootBuiltins x = some (.builtin id)) (hn : x ≠ "__name__") (hdb : (x == ("__debug__" : Str)) = false) : Bt X T x f
  | ty {x : Str} {id : String} {r : List V → Hp → VK → Prop} {f : List D → Out D} (hc : CallR X (.type id) r) (hd : CallD X.K X.mg T r f) (hx : noXN f) (hm : X.mg x = none) (hv : bootBuiltins x = some (.type id)) (hn : x ≠ "__name__") (hdb : (x == ("__debug__" : Str)) = false) : Bt X T x f
theorem e_bt {x : Str} {f : List D → Out D} {e : Expr} {es : List Expr} (k : Bt X T x f) (hg : Gl X x) (ha : PAm X T E (e :: es) ms) (he : starEach (e :: es) X.env = (false, eval e X.env) :: starEach es X.env := by rfl) (hpl : (backTo pos (starEach es X.env)).any (·.1) = false := by rfl) : PEm X T E (.Call (.Name x p) (e :: es) [] pos) (mN f ms) := by
  cases k with
  | fn hc hd hx hm hv hn hdb => exact e_callB hc hd hx hg hm hv ha hn hdb he hpl
  | ty hc hd hx hm hv hn hdb => exact e_callTy hc hd hx hg hm hv ha hn hdb he hpl
theorem b_len (hm : X.mg "len" = none) : Bt X T "len" (c1 dLen) := .fn call_len_seq cd_len (nx_c1 nx_len) hm PySem.boot_len (by decide) (by decide)
theorem b_isi (hm : X.mg "isinstance" = none) : Bt X T "isinstance" (c2 dIsi) := .fn call_isi cd_isi (nx_c2 nx_isi) hm (by decide +kernel) (by decide) (by decide)
theorem b_abs (hm : X.mg "abs" = none) : Bt X T "abs" (c1 dAbs) := .fn call_abs cd_abs (nx_c1 nx_abs) hm (by decide +kernel) (by decide) (by decide)
theorem b_int (hm : X.mg "int" = none) : Bt X T "int" (c1 dInt) := .ty call_int1 cd_int (nx_c1 nx_int) hm (by decide +kernel) (by decide) (by decide)
theorem b_list (hm : X.mg "list" = none) : Bt X T "list" (c1 dList) := .ty call_list_of cd_list (nx_c1 nx_list) hm (by decide +kernel) (by decide) (by decide)
theorem b_tuple (hm : X.mg "tuple" = none) : Bt X T "tuple" (c1 dTuple) := .ty call_tuple_of cd_tuple (nx_c1 nx_tuple) hm (by decide +kernel) (by decide) (by decide)
theorem b_sum (hc : X.calm = true) (hm : X.mg "sum" = none) : Bt X T "sum" (c1 dSum) := .fn (cr_sum hc) cd_sum (nx_c1 nx_sum) hm (by decide +kernel) (by decide) (by decide)
theorem b_all (hc : X.calm = true) (hm : X.mg "all" = none) : Bt X T "all" (c1 dAll) := .fn (cr_all hc) cd_all (nx_c1 nx_all) hm (by decide +kernel) (by decide) (by decide)
theorem b_any (hc : X.calm = true) (hm : X.mg "any" = none) : Bt X T "any" (c1 dAny) := .fn (cr_any hc) cd_any (nx_c1 nx_any) hm (by decide +kernel) (by decide) (by decide)
theorem b_min (hc : X.calm = true) (hm : X.mg "min" = none) : Bt X T "min" (c1 dMin) := .fn (cr_min hc) cd_min (nx_c1 nx_min) hm (by decide +kernel) (by decide) (by decide)
theorem b_max (hc : X.calm = true) (hm : X.mg "max" = none) : Bt X T "max" (c1 dMax) := .fn (cr_max hc) cd_max (nx_c1 nx_max) hm (by decide +kernel) (by decide) (by decide)
theorem b_min2 (hc : X.calm = true) (hm : X.mg "min" = none) : Bt X T "min" (c2 dMin2) := .fn (call_min2 hc) cd_min2 (nx_c2 nx_i2) hm (by decide +kernel) (by decide) (by decide)
theorem b_max2 (hc : X.calm = true) (hm : X.mg "max" = none) : Bt X T "max" (c2 dMax2) := .fn (call_max2 hc) cd_max2 (nx_c2 nx_i2) hm (by decide +kernel) (by decide) (by decide)
/-- a built-in class as a value -/
theorem e_ty {x : Str} {n : String} (hm : X.mg x = none) (hv : bootBuiltins x = some (.type n)) (hg : Gl X x) (hn : x ≠ "__name__" := by decide) (hd : (x == ("__debug__" : Str)) = false := by decide) : PEm X T E (.Name x p) (mC (.ty n)) := ec (pe_bltn (v := .ty n) hg hm hv rfl hn hd) fun _ => .ty n
/-- a def as a value; a constant of the module -/
theorem e_fn {x : Str} {f : Addr} (hm : X.mg x = some (.ref f)) (hg : Gl X x) (hd : (x == ("__debug__" : Str)) = false := by decide) : PEm X T E (.Name x p) (mC (.fn x)) := ec (pe_glob (v := .ref f) hg hm rfl hd) fun _ => .fn hm
theorem e_gint {x : Str} {i : Int} (hm : ∃ t, X.mg x = some (.int i t)) (hg : Gl X x) (hd : (x == ("__debug__" : Str)) = false := by decide) : PEm X T E (.Name x p) (mC (.int i)) := by
  obtain ⟨t, hm⟩ := hm
  exact ec (pe_glob (v := .int i) hg hm ⟨t, rfl⟩ hd) fun _ => .int i
/-- a module's tuple of whole numbers -/
def GTup (K : PySem.W.Frag) (mg : Str → Option Value) (x : Str) (ns : List Int) : Prop := ∃ f, mg x = some (.ref f) ∧ ∀ M, SqT K M f (ns.map V.int)
theorem rpL_ints : ∀ ns : List Int, RpL K mg M (ns.map V.int) (ns.map D.int)
  | [] => .nil
  | n :: ns => .cons (.int n) (rpL_ints ns)
theorem e_gtup {x : Str} {ns : List Int} (h : GTup X.K X.mg x ns) (hg : Gl X x) (hd : (x == ("__debug__" : Str)) = false := by decide) : PEm X T E (.Name x p) (mC (.tup (ns.map D.int))) := by
  obtain ⟨f, hm, hs⟩ := h
  exact ec (pe_glob (v := .ref f) hg hm rfl hd) fun M => .tup (hs M) (rpL_ints ns)
/-- names of the def as targets -/
theorem g_nm (i : Nat) {x : Str} (hN : X.N.Nodup) (hi : X.N[i]? = some x := by rfl) (hx : Loc X.env.scope x := by first | exact Or.inl rfl | exact Or.inr rfl) (hf : X.fn x = true ∨ X.env.scope.names.lookup x = some .local := by first | exact .inl rfl | exact .inr rfl) : PG X (.Name x pos) (gP X.K (.nm i)) := pg_name hN hi hx hf
/-- the store of a name; of a comprehension to a local -/
theorem s_st {m : Env → Out D} {e : Expr} {pos' : Pos} (i : Nat) {x : Str} (hN : X.N.Nodup) (h : PEm X T E e m) (hi : X.N[i]? = some x := by rfl) (hx : Loc X.env.scope x := by first | exact Or.inl rfl | exact Or.inr rfl) (hs : swapsWith e (some (.Name x pos')) pos.line X.env = pure false := by rfl)
    (hf : X.fn x = true ∨ X.env.scope.names.lookup x = some .local := by first | exact .inl rfl | exact .inr rfl) : PSm X T E (.Assign [.Name x pos'] e pos) (sSet i m) := s_set hN hi hx h hs hf
theorem s_so {es : List Expr} {pos' lpos : Pos} (i : Nat) {x : Str} (hN : X.N.Nodup) (h : PAm X T E es ms) (hi : X.N[i]? = some x := by rfl) (hx : Loc X.env.scope x := by first | exact Or.inl rfl | exact Or.inr rfl) (hs : swapsWith (.List es lpos) (some (.Name x pos')) pos.line X.env = pure false := by rfl)
    (hf : X.fn x = true ∨ X.env.scope.names.lookup x = some .local := by first | exact .inl rfl | exact .inr rfl) : PSm X T E (.Assign [.Name x pos'] (.List es lpos) pos) (sOwn i ms) := s_own hN hi hx h hs hf
theorem sp2 {pt p1 p2 p3 : Pos} {k1 k2 : Nat} (i j : Nat) {x y : Str} {e f : Expr} {ms : Env → Out (List D)} (h : PS X (.Assign [.Tuple [.Name x p1, .Name y p2] k1 p3] (.Tuple [e, f] k2 pt) pos) (tPar i j (taOf X.K X.mg T E ms))) : PSm X T E (.Assign [.Tuple [.Name x p1, .Name y p2] k1 p3] (.Tuple [e, f] k2 pt) pos) (sPar i j ms) := weakS h fun _ _ _ h => tPar_of h
/-- xs.index(y), the first place; whole numbers, truths -/
def idxD (y : D) : List D → Option Nat
  | [] => none
  | z :: zs => if eqv z y = true then some 0 else (idxD y zs).map (· + 1)
/-- a list's method of one argument -/
def mL (f : List D → D → Out D) (a b : Env → Out D) : Env → Out D := fun Γ => (a Γ).bind fun x => match x with
  | .lst zs => (b Γ).bind (f zs)
  | _ => .bad
def dIndex (zs : List D) (y : D) : Out D := if (flat y && zs.all flat) = true then (match idxD y zs with
    | some j => .ok (.int (j : Nat))
    | none => .bad) else .bad
theorem idxD_spec {y : D} : ∀ {zs : List D} {j : Nat}, idxD y zs = some j → ∃ z, zs[j]? = some z ∧ eqv z y = true ∧ ∀ m z', m < j → zs[m]? = some z' → eqv z' y = false
  | [], _, h => by cases h
  | z :: zs, j, h => by
    unfold idxD at h
    by_cases e : eqv z y = true
    · rw [if_pos e] at h
      cases h
      exact ⟨z, rfl, e, fun m z' hm => absurd hm (Nat.not_lt_zero _)⟩
    · rw [if_neg e] at h
      cases q : idxD y zs with
      | none => rw [q] at h; cases h
      | some k =>
        rw [q] at h
        cases h
        obtain ⟨w, h1, h2, h3⟩ := idxD_spec q
        refine ⟨w, by simpa using h1, h2, fun m z' hm hz => ?_⟩
        cases m with
        | zero =>
          simp at hz
          subst hz
          simpa using e
        | succ m => exact h3 m z' (Nat.lt_of_succ_lt_succ hm) (by simpa using hz)
theorem flat_all {vs : List V} {ds : List D} (r : RpL K mg M vs ds) (f : ds.all flat = true) : vs.all flatV = true := by
  have aux : ∀ {vs : List V} {ds : List D}, RpL K mg M vs ds → ds.all flat = true → vs.all flatV = true := fun {vs} => by
    induction vs with
    | nil => intro ds _ _; rfl
    | cons v vs ih =>
      intro ds r f
      cases r with
      | cons h t =>
        rw [List.all_cons, Bool.and_eq_true] at f
        rw [List.all_cons, (eqV_eqv h h f.1 f.1).1, ih t f.2]
        rfl
  exact aux r f
theorem e_index {e : Expr} {apos cpos : Pos} (ho : PEm X T E a ma) (he : PEm X T E e mb)
    (hbase : attributeBase a "index" X.env (eval a X.env) = eval a X.env := by rfl)
    (hfew : ((backTo cpos (starEach [e] X.env)).all (fun x => !x.1) && (backToKw cpos (keywordEach [] X.env)).all (fun x => x.1.isSome) && decide ([e].length + ([] : List Keyword).length + (if ([] : List Keyword).isEmpty then 0 else 1) < 30)) = true := by rfl)
    (hline : (apos.endLine == cpos.line) = true := by rfl) (hs : starEach [e] X.env = (false, eval e X.env) :: starEach [] X.env := by rfl) (hplain : (backTo cpos (starEach [] X.env)).any (·.1) = false := by rfl) :
    PEm X T E (.Call (.Attribute a "index" apos) [e] [] cpos) (mL dIndex ma mb) :=
  weakE (pe_bm PySem.F.plainAttrs_list PySem.F.slot_list_index PySem.F.type_list_index mt_index ho (pa_cons he pa_nil hs) hbase hfew hline hs hplain) fun σ H Q h => by
    obtain ⟨Γ, M, H0, r, f⟩ := h
    refine ⟨Γ, M, H0, r, Fin.bind f fun d v H1 M1 _ e1 r1 f1 => ?_⟩
    have rs := r.ext e1
    cases r1 with
    | @lst a vs zs ha ra =>
      refine ⟨.inl ⟨rfl, _, SqL.of (rs.ms _ _ ha)⟩, Γ, M1, H0, rs, Fin.bind f1 fun y w H2 M2 _ e2 r2 f2 => ?_⟩
      have rs2 := rs.ext e2
      have ra2 := ra.mono e2.mm
      unfold dIndex at f2
      by_cases hf : (flat y && zs.all flat) = true
      · rw [if_pos hf] at f2
        rw [Bool.and_eq_true] at hf
        cases q : idxD y zs with
        | none =>
          rw [q] at f2
          exact f2.elim
        | some j =>
          rw [q] at f2
          obtain ⟨z, h1, h2, h3⟩ := idxD_spec q
          obtain ⟨u, k1, k2⟩ := ra2.get h1
          have fz : flat z = true := List.all_eq_true.mp hf.2 z (List.mem_of_getElem? h1)
          refine ⟨a, vs, w, j, u, rfl, rfl, SqL.of (rs2.ms _ _ (e2.mm _ _ ha)), (eqV_eqv r2 r2 hf.1 hf.1).1, flat_all ra2 hf.2, k1, ?_, ?_, ?_⟩
          · rw [(eqV_eqv k2 r2 fz hf.1).2.2]
            exact h2
          · intro m u' hm hu
            obtain ⟨z', l1, l2⟩ := ra2.get' hu
            have fz' : flat z' = true := List.all_eq_true.mp hf.2 z' (List.mem_of_getElem? l1)
            rw [(eqV_eqv l2 r2 fz' hf.1).2.2]
            exact h3 m z' hm l1
          · exact f2 _ _ _ rs2.ext0 (.int _)
      · rw [if_neg hf] at f2
        exact f2.elim
    | _ => exact f1.elim
/-- what a list of one's own tells, without sharing it -/
def mOwn (i : Nat) (f : List D → Out D) : Env → Out D := fun Γ => match ownAt Γ i with
  | some ds => f ds
  | none => .bad
def mOIx (i : Nat) (m : Env → Out D) : Env → Out D := fun Γ => match ownAt Γ i with
  | some ds => (m Γ).bind (dIx (.lst ds))
  | none => .bad
theorem e_oix {x : Str} {b : Expr} {m : Env → Out D} {pos pos' : Pos} (i : Nat) (hb : PEm X T E b m) (hs : PlainIx b) (hN : X.N[i]? = some x := by rfl) (hv : Vis X.env.scope x := by first | exact Or.inl rfl | exact Or.inr (Or.inl rfl) | exact Or.inr (Or.inr rfl)) (hd : (x == ("__debug__" : Str)) = false := by decide)
    (hcd : (x == ("__classdict__" : Str)) = false := by decide) : PEm X T E (.Subscript (.Name x pos') b pos) (mOIx i m) :=
  weakE (pe_ix ix_list (pe_var hN hv hd hcd) hb hs) fun σ H Q h => by
    obtain ⟨Γ, M, H0, r, f⟩ := h
    unfold mOIx at f
    cases q : ownAt Γ i with
    | none =>
      rw [q] at f
      exact f.elim
    | some ds =>
      rw [q] at f
      have hq := ownAt_some q
      obtain ⟨a, vs, h1, h2, h3, h4, h5⟩ := r.own i ds hq
      refine ⟨.ref a, h1, Γ, M, H0, r, Fin.bind f fun d v H1 M1 _ e1 r1 f1 => ?_⟩
      have rs := r.ext e1
      obtain ⟨k1, k2⟩ := e1.out h3 h2 True.intro
      cases r1 with
      | int j =>
        have f1 : Fin X.K X.mg T M1 H1 Q E (match atI ds j with | some d => Out.ok d | none => .bad) := f1
        cases e : atI ds j with
        | none =>
          rw [e] at f1
          exact f1.elim
        | some z =>
          rw [e] at f1
          obtain ⟨u, l1, l2⟩ := atI_rp (h5.mono e1.mm) e
          exact ⟨a, vs, j, u, rfl, rfl, SqL.of k2, l1, f1 _ _ _ rs.ext0 l2⟩
      | _ => exact f1.elim
/-- a comprehension over a list of one's own -/
def mOItems (i : Nat) : Env → Out (List D) := fun Γ => match ownAt Γ i with
  | some ds => .ok ds
  | none => .bad
theorem i_own {x : Str} {tg : Expr} {pos : Pos} (i : Nat) (hN : X.N[i]? = some x := by rfl) (hv : Vis X.env.scope x := by first | exact Or.inl rfl | exact Or.inr (Or.inl rfl) | exact Or.inr (Or.inr rfl)) (hd : (x == ("__debug__" : Str)) = false := by decide)
    (hcd : (x == ("__classdict__" : Str)) = false := by decide) : PICm X T E tg (.Name x pos) (mOItems i) :=
  weakI (pi_list (pe_var hN hv hd hcd)) fun σ H R h => by
    obtain ⟨Γ, M, H0, r, f⟩ := h
    unfold mOItems at f
    cases q : ownAt Γ i with
    | none =>
      rw [q] at f
      exact f.elim
    | some ds =>
      rw [q] at f
      have hq := ownAt_some q
      obtain ⟨a, vs, h1, h2, h3, h4, h5⟩ := r.own i ds hq
      refine ⟨.ref a, h1, a, rfl, ⟨vs, SqL.of h2⟩, f _ _ _ r.ext0 ⟨fun j M' H' hj e => ?_, fun M' H' e => ?_, fun j M' H' y H'' hj e hy => ?_⟩⟩
      · obtain ⟨k1, k2⟩ := e.out h3 h2 True.intro
        exact ⟨vs, vs[j]'(by rw [h5.length]; exact hj), SqL.of k2, by rw [List.getElem?_eq_getElem]⟩
      · obtain ⟨k1, k2⟩ := e.out h3 h2 True.intro
        exact ⟨vs, SqL.of k2, by rw [h5.length]; exact Nat.le_refl _⟩
      · obtain ⟨k1, k2⟩ := e.out h3 h2 True.intro
        obtain ⟨he, hy⟩ := hy
        subst he
        obtain ⟨d, l1, l2⟩ := h5.get' (hy vs (SqL.of k2))
        exact ⟨d, M', l1, Ext.refl e.ms e.nt, l2.mono e.mm⟩
end FL
set_option Elab.async false
set_option linter.all false
set_option maxRecDepth 100000
set_option maxHeartbeats 2000000
namespace FL
open PySem PySem.Spec PyProof.Rows L2 LamX
variable {K : PySem.W.Frag} {mg : Str → Option Value} {T : Tb} {H0 M0 M M' M1 M2 H H' H1 H2 : Hp} {Γ Γ' : Env} {σ σ' : L2.St} {E : XK} {X : Cx}
def rMaxDef (K : PySem.W.Frag) : List V → List V → Hp → VK → Prop := fun vs zs H Q => ∃ (a : Addr) (ns : List Int) (z : V), vs = [V.ref a] ∧ zs = [z] ∧ SqL K H a (ns.map V.int) ∧ (ns = [] → Q z H) ∧ (ns ≠ [] → Q (.int (maxL ns)) H)
def rMinDef (K : PySem.W.Frag) : List V → List V → Hp → VK → Prop := fun vs zs H Q => ∃ (a : Addr) (ns : List Int) (z : V), vs = [V.ref a] ∧ zs = [z] ∧ SqL K H a (ns.map V.int) ∧ (ns = [] → Q z H) ∧ (ns ≠ [] → Q (.int (minL ns)) H)

theorem maxOf_int (n : Int) (ns : List Int) : PySem.W.maxOf n ns = maxL (n :: ns) := by
  unfold PySem.W.maxOf maxL
  congr 1
  funext a b
  show (if decide (a < b) = true then b else a) = if b > a then b else a
  by_cases h : a < b
  · rw [decide_eq_true h, if_pos rfl, if_pos (show b > a from h)]
  · rw [decide_eq_false h, if_neg Bool.false_ne_true, if_neg (show ¬ b > a from h)]
theorem minOf_int (n : Int) (ns : List Int) : PySem.W.minOf n ns = minL (n :: ns) := by
  unfold PySem.W.minOf minL
  congr 1
  funext a b
  show (if decide (b < a) = true then b else a) = if b < a then b else a
  by_cases h : b < a
  · rw [decide_eq_true h, if_pos rfl, if_pos h]
  · rw [decide_eq_false h, if_neg Bool.false_ne_true, if_neg h]
theorem hold_ints {pins : List (Addr × Obj)} {s : Shared} {ns : List Int} {us : List Value} (I : Inv X pins σ H s) (r : Vals (ns.map V.int) us) : PySem.W.HoldAll s.heap us ns := by
  obtain ⟨as, h⟩ := Dp.readsAll I (ns.map PyData.int) (ns.map V.int) us (ints_dp ns) r
  exact ⟨as, h⟩
theorem reads_int {h : Heap} {v : Value} {n : Int} (x : PySem.W.Holds h v n) : ∃ t, v = .int n t := by
  obtain ⟨as, r⟩ := x
  cases r
  exact ⟨_, rfl⟩
theorem cr_maxDef {k : Nat} (hr : Room k X.A) (hc : X.calm = true) : CallRK X (.builtin "max") [Str.ofString "default"] (rMaxDef X.K) := by
  intro pins s σ H xs zs us ws Q I r rz h
  obtain ⟨a, ns, z, rfl, rfl, hs, q0, q1⟩ := h
  obtain ⟨its, rv, hl, _⟩ := I.list hs
  obtain ⟨w, rfl, rw1⟩ := vals1 rz
  rw [Vals.ref1 r]
  show wpAny _ _ (call (.builtin "max") [.ref a] [(Str.ofString "default", w)]) _ _ _
  refine PySem.W.max_list_datum_default (α := Int) (xs := ns) (I.ok.hd hc) hl.isList (hold_ints I rv) (by have := hr.un; show X.A.units + 1 + 0 < cLine; omega) (fun e h' tk hk => ?_) (fun y ys i v h' tk e hi hv hk => ?_)
  · exact ⟨z, H, I.kept hk, rw1, q0 e⟩
  · subst e
    obtain ⟨t, rfl⟩ := reads_int hv
    rw [maxOf_int]
    exact ⟨.int _, H, I.kept hk, ⟨t, rfl⟩, q1 (by simp)⟩
theorem cr_minDef {k : Nat} (hr : Room k X.A) (hc : X.calm = true) : CallRK X (.builtin "min") [Str.ofString "default"] (rMinDef X.K) := by
  intro pins s σ H xs zs us ws Q I r rz h
  obtain ⟨a, ns, z, rfl, rfl, hs, q0, q1⟩ := h
  obtain ⟨its, rv, hl, _⟩ := I.list hs
  obtain ⟨w, rfl, rw1⟩ := vals1 rz
  rw [Vals.ref1 r]
  show wpAny _ _ (call (.builtin "min") [.ref a] [(Str.ofString "default", w)]) _ _ _
  refine PySem.W.min_list_datum_default (α := Int) (xs := ns) (I.ok.hd hc) hl.isList (hold_ints I rv) (by have := hr.un; show X.A.units + 1 + 0 < cLine; omega) (fun e h' tk hk => ?_) (fun y ys i v h' tk e hi hv hk => ?_)
  · exact ⟨z, H, I.kept hk, rw1, q0 e⟩
  · subst e
    obtain ⟨t, rfl⟩ := reads_int hv
    rw [minOf_int]
    exact ⟨.int _, H, I.kept hk, ⟨t, rfl⟩, q1 (by simp)⟩
def dMaxDef (x z : D) : Out D := onInts (fun ns => if ns.isEmpty then .ok z else .ok (.int (maxL ns))) x
def dMinDef (x z : D) : Out D := onInts (fun ns => if ns.isEmpty then .ok z else .ok (.int (minL ns))) x
theorem tCKw_of {r : List V → List V → Hp → VK → Prop} {f : D → D → Out D} {a b : Env → Out D} (hx : noX f)
    (hd : ∀ x y dx dy M H Q d, Same M H → (NoT T M H) → Rp K mg M x dx → Rp K mg M y dy → f dx dy = .ok d → (∀ v H' M', Ext T M H M' H' → Rp K mg M' v d → Q v H') → r [x] [y] H Q) {Q : VK} (h : tOf K mg T E (m2 f a b) σ H Q) :
    tCKw r (tCons (tOf K mg T E a) tNil) (tCons (tOf K mg T E b) tNil) σ H Q := by
  obtain ⟨Γ, M, H0, rs, fn⟩ := h
  refine ⟨Γ, M, H0, rs, Fin.bind fn fun x v H1 M1 _ e1 r1 f1 => ?_⟩
  refine ⟨Γ, M1, H0, rs.ext e1, Fin.bind f1 fun y w H2 M2 _ e2 r2 f2 => ?_⟩
  have rs2 := (rs.ext e1).ext e2
  cases q : f x y with
  | ok z =>
    rw [q] at f2
    exact hd v w x y M2 H2 Q z rs2.ms rs2.nt (r1.mono e2.mm) r2 q f2
  | exc c => exact absurd q (hx x y c)
  | bad =>
    rw [q] at f2
    exact f2.elim
theorem dd_ints {f : List Int → D → Out D} {x z : D} {v : V} {d : D} (r : Rp K mg M v x) (h : onInts (fun ns => f ns z) x = .ok d) : ∃ a ns, v = .ref a ∧ M a = some (.lst (ns.map V.int)) ∧ f ns z = .ok d := by
  cases r with
  | @lst a vs xs ha ra =>
    have h : (match toInts xs with | some ns => f ns z | none => .bad) = .ok d := h
    cases e : toInts xs with
    | none => rw [e] at h; cases h
    | some ns =>
      rw [e] at h
      have ev := toInts_rp ra e
      subst ev
      exact ⟨a, ns, rfl, ha, h⟩
  | _ => cases h
theorem nx_maxDef : noX dMaxDef := fun a b c h => (nx_onInts (fun ns c => by split <;> intro h <;> cases h)) a c h
theorem nx_minDef : noX dMinDef := fun a b c h => (nx_onInts (fun ns c => by split <;> intro h <;> cases h)) a c h
theorem e_maxdef {a z : Expr} {ma mz : Env → Out D} {p kp pos : Pos}
    (hP : PE X (.Call (.Name "max" p) [a] [⟨some "default", z, kp⟩] pos) (tCKw (rMaxDef X.K) (tCons (tOf X.K X.mg T E ma) tNil) (tCons (tOf X.K X.mg T E mz) tNil))) :
    PEm X T E (.Call (.Name "max" p) [a] [⟨some "default", z, kp⟩] pos) (m2 dMaxDef ma mz) :=
  weakE hP fun σ H Q h => tCKw_of nx_maxDef (fun x y dx dy M H Q d s nt rx ry hf q => by
    obtain ⟨a, ns, rfl, ha, hf⟩ := dd_ints (f := fun ns z => if ns.isEmpty then .ok z else .ok (.int (maxL ns))) rx hf
    refine ⟨a, ns, y, rfl, rfl, SqL.of (s _ _ ha), fun e => ?_, fun e => ?_⟩
    · subst e
      cases hf
      exact q _ _ _ (Ext.refl s nt) ry
    · have hne : ns.isEmpty = false := by cases ns with | nil => exact absurd rfl e | cons _ _ => rfl
      rw [hne] at hf
      cases hf
      exact q _ _ _ (Ext.refl s nt) (.int _)) h
theorem e_mindef {a z : Expr} {ma mz : Env → Out D} {p kp pos : Pos}
    (hP : PE X (.Call (.Name "min" p) [a] [⟨some "default", z, kp⟩] pos) (tCKw (rMinDef X.K) (tCons (tOf X.K X.mg T E ma) tNil) (tCons (tOf X.K X.mg T E mz) tNil))) :
    PEm X T E (.Call (.Name "min" p) [a] [⟨some "default", z, kp⟩] pos) (m2 dMinDef ma mz) :=
  weakE hP fun σ H Q h => tCKw_of nx_minDef (fun x y dx dy M H Q d s nt rx ry hf q => by
    obtain ⟨a, ns, rfl, ha, hf⟩ := dd_ints (f := fun ns z => if ns.isEmpty then .ok z else .ok (.int (minL ns))) rx hf
    refine ⟨a, ns, y, rfl, rfl, SqL.of (s _ _ ha), fun e => ?_, fun e => ?_⟩
    · subst e
      cases hf
      exact q _ _ _ (Ext.refl s nt) ry
    · have hne : ns.isEmpty = false := by cases ns with | nil => exact absurd rfl e | cons _ _ => rfl
      rw [hne] at hf
      cases hf
      exact q _ _ _ (Ext.refl s nt) (.int _)) h
end FL
set_option Elab.async false
set_option linter.all false
set_option maxRecDepth 100000
set_option maxHeartbeats 2000000
namespace FL
open PySem PySem.Spec PyProof.Rows L2 LamX
open HotX (HotAt)
section
variable {prog : Program} {w : World} {A : Around} {E : Value → Shared → Prop} {s : Shared}
/-- the end of a list that is walked, while an exception is handled -/
theorem list_end_hot {it l x1 : Addr} {i : Nat} {items : Array Value} {Q : Option Value → Shared → Prop} (hot : HotAt A x1 s.heap) (hne : x1 ≠ it) (hit : s.heap.IsListIter it l i) (hl : s.heap.IsList l items) (hx : items[i]? = none)
    (hQ : ∀ h', Heap.ExtBut it s.heap h' → Q none { s with heap := h' }) : wpAny (model prog w) A (pyNext (.ref it)) Q E s := by
  obtain ⟨o, ho, hc, hd⟩ := id hit
  obtain ⟨ol, hol, _, nl, hdl⟩ := hl
  obtain ⟨hh, o1, vs1, h1, d1, c1⟩ := hot
  unfold pyNext
  refine wpAny_bind (wpAny_attempt (wpAny_callSpecial?_slot (name := Str.ofString "__next__") hit.typeIs slot_listiter_next (wpAny_call_entry slot_listiter_next hit.typeIs entry_listiter_next ?_ (args_listiter_next _))))
  show wpAny _ _ (field (.ref it) 0 >>= _) _ _ s
  refine wpAny_bind (wpAny_field ho hd (x := .ref l) rfl ?_)
  show wpAny _ _ (if (Value.ref l == Value.none) = true then _ else _) _ _ s
  rw [if_neg (show ¬ ((Value.ref l == Value.none) = true) from Bool.false_ne_true)]
  show wpAny _ _ (field (.ref it) 1 >>= _) _ _ s
  refine wpAny_bind (wpAny_field ho hd (x := .int i 0) rfl ?_)
  show wpAny _ _ (seqItems? (.ref l) >>= _) _ _ s
  refine wpAny_bind (wpAny_seqItems hol hdl ?_)
  simp only [Int.toNat_natCast, hx]
  refine wpAny_bind (wpAny_rule (wpAny_bind (wpAny_setField ho hd (by simp) ?_)))
  show wpAny _ _ (newExc (.type "StopIteration") [] >>= _) _ _ _
  refine wpAny_bind ?_
  simp only [newExc, newTuple]
  refine wpAny_bind (wpAny_newObj_type ?_ (by size_fits))
  refine wpAny_bind (m := firstArgMember _ _) (wpAny_of_eq (a := Value.none) (by first | rfl | (simp only [firstArgMember]; rfl)) ?_)
  refine wpAny_newObj_type ?_ (by size_fits)
  have k1 : (s.heap.update it (Obj.mapFields (·.setIfInBounds 0 .none))).get? x1 = some o1 := (Heap.get?_update_other _ _ (Ne.symm hne)).trans h1
  refine HotX.raiseNew_hot (x1 := x1) ⟨hh, o1, vs1, Heap.get?_push_of_some _ (Heap.get?_push_of_some _ k1), d1, c1⟩ (Nat.ne_of_lt (Heap.lt_size (Heap.get?_push_of_some _ k1))) (Heap.get?_push_size _ rfl) rfl (by first | (simp; done) | (simp; omega)) ?_
  refine wpAny_bind (wpAny_isInstance (T := "StopIteration") (b := true) ⟨_, Heap.get?_update_self _ (Heap.get?_push_size _ rfl) rfl, rfl⟩ isSubtype_stop ?_)
  refine wpAny_pure (hQ _ fun b u hb e => ?_)
  have e1 : (s.heap.update it (Obj.mapFields (·.setIfInBounds 0 .none))).get? b = some u := (Heap.get?_update_other _ _ (Ne.symm hb)).trans e
  exact (Heap.get?_update_other _ _ (Nat.ne_of_gt (Heap.lt_size (Heap.get?_push_of_some _ e1)))).trans (Heap.get?_push_of_some _ (Heap.get?_push_of_some _ e1))
/-- a list walked there -/
theorem walks_hot {x1 I ax : Addr} {o1 : Obj} {vs1 : Array Value} (hh : A.handled = some (.ref x1)) (d1 : o1.data = .fields vs1) (c1 : vs1[2]? = some .none) (hne : ax ≠ I) (hx : x1 ≠ I) (items : Array Value) :
    Walks prog w A I [I, ax, x1] [I] items.size (fun i v => items[i]? = some v) (fun i h => h.IsListIter I ax i ∧ h.IsList ax items ∧ h.get? x1 = some o1) where
  sub := fun b hb => by simp at hb; simp [hb]
  frame := fun _ _ _ st hk => ⟨st.1.at fun o e => hk I (by simp) o e, st.2.1.at fun o e => hk ax (by simp) o e, hk x1 (by simp) _ st.2.2⟩
  item := fun i s Q E hi st hQ => by
    refine wpAny_pyNext_list_item st.1 st.2.1 (x := items[i]) (by simp [hi]) fun h' hit' hs' => ?_
    exact hQ _ h' s.toks (by simp [hi]) ⟨hit', st.2.1.extBut hs'.extBut hne, hs'.extBut x1 _ hx st.2.2⟩ fun b o hb e => hs'.extBut b o (fun h => hb (by simp [h])) e
  done := fun s Q E st hQ => list_end_hot ⟨hh, o1, vs1, st.2.2, d1, c1⟩ hx st.1 st.2.1 (by simp) fun h' he' => hQ h' s.toks fun b o hb e => he' b o (fun h => hb (by simp [h])) e
  self := fun _ _ _ _ st hQ => wpAny_pyIter_listiter st.1 hQ
theorem sum_hot {l x1 : Addr} {its : List Value} {ns : List Int} {Q : Value → Shared → Prop} (hot : HotAt A x1 s.heap) (hl : s.heap.IsList l its.toArray) (hi : IntsAre its ns)
    (h : ∀ h' tk t', (∀ b o, s.heap.get? b = some o → h'.get? b = some o) → Q (.int ns.sum t') { s with heap := h', toks := tk }) : wpAny (model prog w) A (call (.builtin "sum") [.ref l]) Q E s := by
  obtain ⟨xs, e⟩ := hi.allInts.items
  have hn : numsOf (intItems xs).toList = ns := by rw [← e]; exact hi.numsOf
  rw [nums_intItems] at hn
  rw [e] at hl
  obtain ⟨hh, o1, vs1, h1, d1, c1⟩ := hot
  refine call_sum_walkG (iter_intList hl fun s₂ e2 st hfp hlI => ?_)
  subst e2
  have hlt := Heap.lt_size h1
  refine ⟨_, _, _, _, _, _, numAt xs, rfl, walks_hot (A := A.in1) hh d1 c1 hlI (Nat.ne_of_lt hlt) (intItems xs), ⟨st.1, st.2, Heap.get?_push_of_some _ h1⟩, fun b hb => ?_, (fun _ _ => intItems_at), fun h' tk t' hk => ?_⟩
  · have z : b ∈ [s.heap.objs.size, l] ∨ b = x1 := by
      simp only [List.mem_cons, List.not_mem_nil, or_false] at hb ⊢
      rcases hb with z | z | z
      · exact .inl (.inl z)
      · exact .inl (.inr z)
      · exact .inr z
    rcases z with z | z
    · exact hfp b z
    · subst z
      show b < (s.heap.push _).objs.size
      rw [Heap.size_push]
      exact Nat.lt_succ_of_lt hlt
  · have q := h h' tk t' (old_kept hk)
    have ez : preSum (numAt xs) (intItems xs).size = ns.sum := by
      rw [show (intItems xs).size = xs.size by simp [intItems], preSum_eq, List.take_of_length_le (by simp), hn]
    rw [ez]
    exact q
end
section
variable {X : Cx}
theorem cr_sumH (hc : L2H.HotC X) : CallR X (.builtin "sum") (rSum X.K) := by
  intro pins s σ H vs us Q I r h
  obtain ⟨a, ns, rfl, hs, q⟩ := h
  obtain ⟨its, rv, hl, _⟩ := I.list hs
  obtain ⟨x1, hot⟩ := hc.at I
  rw [Vals.ref1 r]
  exact sum_hot hot hl.isList rv.ints fun h' tk t' hk => ⟨.int _, H, I.kept hk, ⟨_, rfl⟩, q⟩
/-- [elt for x in list], no test, while an exception is handled -/
def tLcH (K : PySem.W.Frag) (j : Nat) (tl te : TE) : TE := fun σ H Q => tl σ H fun v H1 => ∃ a xs, v = .ref a ∧ SqL K H1 a xs ∧ ∀ D, H1 D = none → ∃ W : Nat → Hp → Prop, W 0 (upd H1 D (.lst [])) ∧ (∀ i H, W i H → SqL K H a xs) ∧
  (∀ i H x, W i H → xs[i]? = some x → te ((L2.wipe σ [j]).set j (some x)) H fun y H4 => ∃ acc, H4 D = some (.lst acc) ∧ acc.length < sizeLine ∧ W (i + 1) (upd H4 D (.lst (acc ++ [y])))) ∧ ∀ H, W xs.length H → Q (.ref D) H
theorem pe_lcH {elt iter : Expr} {x : Str} {px pos : Pos} {scope : Scope} {j : Nat} {tl te : TE} (hot : L2H.HotC X) (hN : X.N.Nodup) (hi : PE X iter tl) (ok : BlkOk X.N X.env.scope scope [(x, j)])
    (hg : ∀ (s : Shared) (H : Hp) (C : Addr) (cl : List (Str × Addr)) (fp : List Addr), PG (Blk X scope s H C cl fp) (.Name x px) (gName j))
    (he : ∀ (s : Shared) (H : Hp) (C : Addr) (cl : List (Str × Addr)) (fp : List Addr), PE (Blk X scope s H C cl fp) elt te) (hs : ∀ y, foldedSetIterable iter X.env y = pure y := by intro _; rfl) :
    PE X (.ListComp elt [⟨.Name x px, iter, [], 0⟩] scope pos) (tLcH X.K j tl te) := by
  refine ⟨fun pins s σ H Q I h => ?_⟩
  rw [eval_ListComp]
  obtain ⟨p, ⟨hh, v1, d1, c1⟩, hp⟩ := hot
  have hfree : ∀ y ∈ scope.names, y.2 = .free → ∃ c, X.env.cells.lookup y.1 = some c := fun y hy e => by
    rcases ok.free y hy e with k | k
    · exact I.ok.has _ (.inl k)
    · exact I.ok.has _ (.inr k)
  refine wpAny_comprehension_free (use := none) rfl hs (closure_ok hfree) ok.kind (fun y hy e => by rw [ok.uniq y hy, e]) (thn (hi.run pins s σ H _ I h) fun v s1 ⟨w1, H1, I1, r1, q1⟩ => ?_)
  obtain ⟨a, xs, rfl, hq, q⟩ := q1
  cases r1
  obtain ⟨its, rv, pl, hz⟩ := I1.list hq
  have lt1 := rv.length
  refine wpAny_pyIter_list pl.isList ?_
  have I2 : Inv X pins σ H1 { s1 with heap := s1.heap.push { cls := .type "list_iterator", data := .fields #[.ref a, .int 0 0] } } := I1.kept (t' := s1.toks) fun b o e => Heap.get?_push_of_some _ e
  generalize hit : s1.heap.objs.size = it
  have st2 : (s1.heap.push { cls := .type "list_iterator", data := .fields #[.ref a, .int 0 0] }).IsListIter it a 0 := by
    rw [← hit]
    exact ⟨_, Heap.get?_push_size _ rfl, rfl, rfl⟩
  have f2 : FpOk X pins H1 it := by
    rw [← hit]
    exact I1.fpOk (Nat.le_refl _) (I1.hok.fresh (Nat.le_refl _))
  have hit2 : it < (s1.heap.push { cls := .type "list_iterator", data := .fields #[.ref a, .int 0 0] }).objs.size := by
    rw [Heap.size_push, hit]
    exact Nat.lt_succ_self _
  generalize hs2 : ({ s1 with heap := s1.heap.push { cls := .type "list_iterator", data := .fields #[.ref a, .int 0 0] } } : Shared) = s2 at I2 ⊢
  have h2 : s2.heap = s1.heap.push { cls := .type "list_iterator", data := .fields #[.ref a, .int 0 0] } := by rw [← hs2]
  rw [← h2] at st2 hit2
  refine wpAny_newObj_type (newEnv_comp ?_) (by show 0 ≤ sizeLine; decide)
  generalize hD : s2.heap.objs.size = D
  have hDn : H1 D = none := I2.hok.fresh (Nat.le_of_eq hD)
  obtain ⟨W, w0, wl, turn, fin⟩ := q D hDn
  generalize hs3 : ({ s2 with heap := s2.heap.push { cls := .type "list", data := .seq ([] : List Value).toArray } } : Shared) = s3
  have I3 : Inv X pins σ (upd H1 D (.lst [])) s3 := by
    rw [← hs3]
    refine I2.laid (t' := s2.toks) (fun b o e => Heap.get?_push_of_some _ e) (Nat.le_of_eq hD) ⟨Nat.zero_le _, [], 0, .nil, ?_⟩
    rw [← hD]
    exact Heap.get?_push_size _ rfl
  have h3 : s3.heap = s2.heap.push { cls := .type "list", data := .seq ([] : List Value).toArray } := by rw [← hs3]
  have hDit : D ≠ it := by rw [← hD]; exact Nat.ne_of_gt hit2
  have f3 : FpOk X pins (upd H1 D (.lst [])) it ∧ it < s3.heap.objs.size := by
    refine ⟨⟨?_, f2.2⟩, by rw [h3, Heap.size_push]; exact Nat.lt_succ_of_lt hit2⟩
    rw [upd_ne (Ne.symm hDit)]
    exact f2.1
  have st3 : s3.heap.IsListIter it a 0 := st2.at fun o e => by rw [h3]; exact Heap.get?_push_of_some _ e
  have f3' : ∀ b ∈ [it], FpOk X pins (upd H1 D (.lst [])) b ∧ b < s3.heap.objs.size := fun b hb => by
    have e : b = it := by simpa using hb
    subst e
    exact f3
  have I4 := block_start I3 ok hN f3'
  have pg : PG (X.blk s3 (upd H1 D (.lst [])) scope (compEnvC scope (cellsFrom (s3.heap.objs.size + 1) scope.names (cloFrom X.env.cells scope.names [])) s3.heap.objs.size X.env) [it]) (.Name x px) (gName j) :=
    hg s3 (upd H1 D (.lst [])) s3.heap.objs.size (cellsFrom (s3.heap.objs.size + 1) scope.names (cloFrom X.env.cells scope.names [])) [it]
  have pe : PE (X.blk s3 (upd H1 D (.lst [])) scope (compEnvC scope (cellsFrom (s3.heap.objs.size + 1) scope.names (cloFrom X.env.cells scope.names [])) s3.heap.objs.size X.env) [it]) elt te := he s3 (upd H1 D (.lst [])) s3.heap.objs.size (cellsFrom (s3.heap.objs.size + 1) scope.names (cloFrom X.env.cells scope.names [])) [it]
  have P3 := I3.pin p (List.mem_append_left _ hp)
  show codeAny _ _ (.compStart (.ListComp elt [⟨.Name x px, iter, [], 0⟩] scope pos) 0 (.ref it) (.ref D) (compEnvC scope (cellsFrom (s3.heap.objs.size + 1) scope.names (cloFrom X.env.cells scope.names [])) s3.heap.objs.size X.env)) _ { s3 with heap := pushCells (s3.heap.push { cls := .type "dict", data := .dict #[] }) scope.names }
  generalize hce : compEnvC scope (cellsFrom (s3.heap.objs.size + 1) scope.names (cloFrom X.env.cells scope.names [])) s3.heap.objs.size X.env = ce at I4 pg pe ⊢
  have cL : ce.locals = s3.heap.objs.size := by subst hce; rfl
  generalize hH3 : upd H1 D (.lst []) = H3 at I3 I4 pg pe w0 f3 f3' P3
  have kp4 : ∀ b o, s3.heap.get? b = some o → (pushCells (s3.heap.push { cls := .type "dict", data := .dict #[] }) scope.names).get? b = some o := fun b o e => pushCells_keeps _ _ _ _ (Heap.get?_push_of_some _ e)
  generalize hs4 : ({ s3 with heap := pushCells (s3.heap.push { cls := .type "dict", data := .dict #[] }) scope.names } : Shared) = s4 at I4 ⊢
  have h4 : s4.heap = pushCells (s3.heap.push { cls := .type "dict", data := .dict #[] }) scope.names := by rw [← hs4]
  rw [← h4] at kp4
  have st4 : s4.heap.IsListIter it a 0 := st3.at fun o e => kp4 _ _ e
  have nst : p.1 ∉ frs X.stack := fun z => (List.mem_cons.mp (I3.stkSub p.1 z)).elim P3.2.2.1 P3.2.2.2.1
  have pnit : p.1 ≠ it := fun z => f3.1.2.2.2.2.2 p (List.mem_append_left _ hp) z
  -- the handled exception is carried along
  have J4 : Inv (X.blk s3 H3 scope ce [it]) [p] (L2.wipe σ [j]) H3 s4 := I4.pins_of fun q hq => by
    have eq : q = p := by simpa using (show q ∈ ([] : List (Addr × Obj)) ++ [p] from hq)
    subst eq
    refine ⟨kp4 _ _ P3.1, P3.2.1, ?_, nst, P3.2.2.2.2⟩
    show q.1 ≠ ce.locals
    rw [cL]
    exact Nat.ne_of_lt (Heap.lt_size P3.1)
  have fpk : ∀ {σ' : L2.St} {H' : Hp} {s' : Shared}, Inv (X.blk s3 H3 scope ce [it]) [p] σ' H' s' → H' it = none → FpOk (X.blk s3 H3 scope ce [it]) [p] H' it := fun {σ' H' s'} I' hn =>
    ⟨hn, (I'.ok.exf it List.mem_cons_self).1, I'.ok.exfs it List.mem_cons_self, .inl List.mem_cons_self, fun y c e => (I'.ok.exf it List.mem_cons_self).2 y c e, fun q hq => by
      have eq : q = p := by simpa using (show q ∈ ([] : List (Addr × Obj)) ++ [p] from hq)
      subst eq
      exact pnit⟩
  have loop : codeAny (model X.prog X.w) X.A (.compLoop (.ListComp elt [⟨.Name x px, iter, [], 0⟩] scope pos) 0 (.ref it) (.ref D) ce) (compPost (model X.prog X.w) X.A X.xe none (EP X pins σ Q) (.ref D) s3.heap.objs.size) s4 := by
    refine compLoop_any (fun n s' => ∃ i H', n = xs.length - i ∧ i ≤ xs.length ∧ Inv (X.blk s3 H3 scope ce [it]) [p] (L2.wipe σ [j]) H' s' ∧ s'.heap.IsListIter it a i ∧ H' it = none ∧ W i H') ?_ xs.length ⟨0, H3, rfl, Nat.zero_le _, J4, st4, f3.1.1, w0⟩
    rintro n s5 ⟨i, H5, rfl, hi5, I5, st5, n5, w5⟩
    have hq5 := wl i H5 w5
    obtain ⟨its5, rv5, pl5, hz5⟩ := I5.list hq5
    have l5 := rv5.length
    obtain ⟨g0, g1, g2, g3, g4, g5⟩ := fpk I5 n5
    by_cases hlt : i < xs.length
    · have hx5 : xs[i]? = some xs[i] := List.getElem?_eq_getElem hlt
      obtain ⟨u, hu, ru⟩ := rv5.get hx5
      refine wpAny_pyNext_list_item st5 pl5.isList (x := u) (by simpa using hu) fun h6 st6 sb6 => ?_
      have I6 : Inv (X.blk s3 H3 scope ce [it]) [p] (L2.wipe σ [j]) H5 { s5 with heap := h6 } := I5.turned (t' := s5.toks) (fun b o hb e => (sb6.2 b hb).trans e) g0 g1 g3 g4 g5
      obtain ⟨o6, e6, c6, d6⟩ := id st6
      refine go_of (s := { s5 with heap := h6 }) e6 c6 d6 (by decide) ?_
      have I6' := I6.pinned (fp := [it]) (fun b hb => by
        have e : b = it := by simpa using hb
        subst e
        exact fpk I6 n5) (fun b hb => by
        have e : b = it := by simpa using hb
        subst e
        exact ⟨o6, e6, fun v z => by rw [d6] at z; cases z⟩)
      refine thnF (pg.run _ _ _ H5 xs[i] u (fun σ2 H2 => σ2 = (L2.wipe σ [j]).set j (some xs[i]) ∧ H2 = H5) I6' ru ⟨rfl, rfl⟩) fun _ s8 ⟨σ8, H8, I8, e8, e8'⟩ => ?_
      subst e8 e8'
      refine wpAny_pure ?_
      show wpAny _ _ (eval elt ce) _ _ s8
      refine thnF (pe.run _ s8 _ H8 _ I8 (turn i H8 xs[i] w5 hx5)) fun z s10 ⟨yv, H10, I10, r10, acc, hD10, hz10, nx⟩ => ?_
      refine app_ok (X := X.blk s3 H3 scope ce [it]) I10 hD10 hz10 r10 fun s11 I11 => ?_
      have pin' : s11.heap.get? it = some o6 ∧ (upd H10 D (.lst (acc ++ [yv]))) it = none := by
        have z := I11.pin (it, o6) (List.mem_append_right _ (List.mem_append_right _ (mem_pinsAt List.mem_cons_self e6)))
        exact ⟨z.1, z.2.1⟩
      refine ⟨xs.length - (i + 1), by omega, i + 1, _, rfl, hlt, (I11.unpinned (pins := [p])).weak (by rw [List.length_set]) (fun k v e => ?_), ⟨o6, pin'.1, c6, d6⟩, pin'.2, nx⟩
      have e' : (L2.wipe σ [j])[k]? = some (some v) := e
      by_cases hk : j = k
      · subst hk
        exact absurd (wipe_some e').2 (by simp)
      · rw [List.getElem?_set_ne hk]
        exact e'
    · have ei : i = xs.length := by omega
      subst ei
      have hp5 := I5.pin p (List.mem_append_right _ List.mem_cons_self)
      refine list_end_hot ⟨hh, p.2, v1, hp5.1, d1, c1⟩ pnit st5 pl5.isList (by simp; omega) fun h6 eb => ?_
      have I6 : Inv (X.blk s3 H3 scope ce [it]) [p] (L2.wipe σ [j]) H5 { s5 with heap := h6 } := I5.turned (t' := s5.toks) (fun b o hb e => eb b o hb e) g0 g1 g3 g4 g5
      have I7 : Inv X pins σ H5 { s5 with heap := h6 } := I3.call' (ch := [it]) I6.os I6.base I6.hok I6.bare fun b hb => ⟨(f3' b hb).1.2.2.2.1, (f3' b hb).1.2.1, (f3' b hb).1.2.2.2.2.1, (f3' b hb).1.2.2.2.2.2⟩
      have nC : H5 s3.heap.objs.size = none := by
        have z : H5 ce.locals = none := I6.free
        rw [cL] at z
        exact z
      obtain ⟨m, hn, _⟩ := I6.loc
      have hn : h6.Ns ce.locals m := hn
      rw [cL] at hn
      obtain ⟨k0, k1, k2, k3, k4, k5⟩ := I3.fpOk (H' := H5) (Nat.le_refl _) nC
      refine ⟨m, hn, fun h'' sb => ?_⟩
      exact ⟨.ref D, H5, I7.turned (t' := s5.toks) (fun b o hb e => (sb.2 b hb).trans e) k0 k1 k3 k4 k5, rfl, fin H5 w5⟩
  exact codeAny_compStart_list loop (wpAny_pyIter_listiter st4 loop)
end
end FL
set_option Elab.async false
set_option linter.all false
set_option maxRecDepth 100000
set_option maxHeartbeats 2000000
namespace FL
open PySem PySem.Spec PyProof.Rows L2 LamX
variable {K : PySem.W.Frag} {mg : Str → Option Value} {T : Tb} {H0 M0 M M' M1 M2 H H' H1 H2 : Hp} {Γ Γ' : Env} {σ σ' : L2.St} {E : XK} {X : Cx}
/-! ### what runs while an exception is handled -/
theorem b_sumH (hc : L2H.HotC X) (hm : X.mg "sum" = none) : Bt X T "sum" (c1 dSum) := .fn (cr_sumH hc) cd_sum (nx_c1 nx_sum) hm (by decide +kernel) (by decide) (by decide)
/-- the items of a list -/
def mItL (m : Env → Out D) : Env → Out (List D) := fun Γ => (m Γ).bind fun d => match d with
  | .lst ds => .ok ds
  | _ => .bad
theorem tLcH_of {j : Nat} {m elt : Env → Out D} {Q : VK} (h : tOf K mg T E (mComp [j] (.nm j) (mItL m) tYesM elt) σ H Q) : tLcH K j (tOf K mg T E m) (tOf K mg T E0 elt) σ H Q := by
  obtain ⟨Γ, M, H0, r, f⟩ := h
  refine ⟨Γ, M, H0, r, ?_⟩
  unfold mComp mItL at f
  cases qm : m Γ with
  | exc c =>
    rw [qm] at f
    exact f
  | bad =>
    rw [qm] at f
    exact f
  | ok d =>
    rw [qm] at f
    intro v H1 M1 e1 r1
    have f1 := Fin.up f e1
    have rs1 := r.ext e1
    cases r1 with
    | @lst a vs ds ha ra =>
      refine ⟨a, vs, rfl, SqL.of (rs1.ms _ _ ha), fun Da hD => ?_⟩
      have f1 : Fin K mg T M1 H1 Q E (match compL (.nm j) tYesM elt (wipeE Γ [j]) ds with | .ok ys => dLst ys | _ => .bad) := f1
      cases qc : compL (.nm j) tYesM elt (wipeE Γ [j]) ds with
      | exc c => rw [qc] at f1; exact f1.elim
      | bad => rw [qc] at f1; exact f1.elim
      | ok ys =>
        rw [qc] at f1
        by_cases hlen : ys.length ≤ LIM
        · have f1 : Fin K mg T M1 H1 Q E (if ys.length ≤ LIM then Out.ok (.lst ys) else .bad) := f1
          rw [if_pos hlen] at f1
          have mD : M1 Da = none := by
            cases q : M1 Da with
            | none => rfl
            | some u =>
              have z := rs1.ms _ _ q
              rw [hD] at z
              cases z
          have frD : Fr H1 Da := fun u hu => by rw [hD] at hu; cases hu
          refine ⟨fun i H => i ≤ ds.length ∧ ∃ M acc done rest, Ext T M1 H1 M H ∧ H Da = some (.lst acc) ∧ M Da = none ∧ RpL K mg M acc done ∧ compL (.nm j) tYesM elt (wipeE Γ [j]) (ds.drop i) = .ok rest ∧ done ++ rest = ys ∧ Tabs T H,
            ⟨Nat.zero_le _, M1, [], [], ys, Ext.grow rs1.ms rs1.nt (same_upd hD), upd_same, mD, .nil, qc, rfl, rs1.tb.ext (same_upd hD)⟩, ?_, ?_, ?_⟩
          · rintro i H3 ⟨hi, M3, acc, done, rest, e3, _⟩
            exact SqL.of (e3.ms _ _ (e3.mm _ _ ha))
          · rintro i H3 x ⟨hi, M3, acc, done, rest, e3, hA, mA, rA, hc3, hy3, tb3⟩ hx
            obtain ⟨d, hd, rd⟩ := ra.get' hx
            have hlt : i < ds.length := by
              by_cases h : i < ds.length
              · exact h
              · rw [List.getElem?_eq_none (by omega)] at hd
                cases hd
            have hdr : ds.drop i = d :: ds.drop (i + 1) := by
              rw [List.drop_eq_getElem_cons hlt]
              rw [List.getElem?_eq_getElem hlt] at hd
              cases hd
              rfl
            rw [hdr] at hc3
            have hc3 : (match elt ((wipeE Γ [j]).set j (some (.dat d))) with
              | .ok y => (match compL (.nm j) tYesM elt (wipeE Γ [j]) (ds.drop (i + 1)) with
                | .ok ys => Out.ok (y :: ys)
                | _ => .bad)
              | _ => .bad) = .ok rest := hc3
            have rw3 : Rs K mg T H0 M3 H3 (wipeE Γ [j]) (L2.wipe σ [j]) := (rs1.wipe [j]).ext e3
            refine ⟨_, M3, H0, rw3.set j (rd.mono e3.mm), ?_⟩
            cases q7 : elt ((wipeE Γ [j]).set j (some (.dat d))) with
            | exc x => rw [q7] at hc3; cases hc3
            | bad => rw [q7] at hc3; cases hc3
            | ok y =>
              rw [q7] at hc3
              have hc3 : (match compL (.nm j) tYesM elt (wipeE Γ [j]) (ds.drop (i + 1)) with
                | .ok ys => Out.ok (y :: ys)
                | _ => .bad) = .ok rest := hc3
              cases q8 : compL (.nm j) tYesM elt (wipeE Γ [j]) (ds.drop (i + 1)) with
              | exc x => rw [q8] at hc3; cases hc3
              | bad => rw [q8] at hc3; cases hc3
              | ok rest2 =>
                rw [q8] at hc3
                cases hc3
                intro v H8 M8 e8 r8
                obtain ⟨mA8, hA8⟩ := e8.out mA hA True.intro
                refine ⟨acc, hA8, ?_, hlt, M8, acc ++ [v], done ++ [y], rest2, (e3.trans e8).mut mA8 hA8 frD, upd_same, mA8, (rA.mono e8.mm).append (.cons r8 .nil), q8, by rw [List.append_assoc]; exact hy3, tabs_upd (e8.tb tb3) hA8⟩
                rw [rA.length, sizeLine_eq]
                have hz : (done ++ (y :: rest2)).length ≤ LIM := by rw [hy3]; exact hlen
                rw [List.length_append, List.length_cons] at hz
                unfold LIM at hz
                omega
          · rintro H3 ⟨hi, M3, acc, done, rest, e3, hA, mA, rA, hc3, hy3, tb3⟩
            rw [ra.length, List.drop_length] at hc3
            cases hc3
            rw [List.append_nil] at hy3
            subst hy3
            have mm : Same M3 (upd M3 Da (.lst acc)) := same_upd mA
            refine f1 (.ref Da) H3 (upd M3 Da (.lst acc)) ⟨e3.kp, e3.ke, e3.tb, e3.mm.trans mm, fun b o hb => ?_, ⟨fun b o hb => ?_, e3.nt.pl.monoM fun b C dx fs hb => ?_⟩, fun b o hb => ?_, fun b hb => e3.nm b (hb.of fun x C dx fs hx => memo_lst hx)⟩ (.lst upd_same (rA.mono mm))
            · by_cases q : b = Da
              · subst q
                rw [upd_same] at hb
                rw [← hb]
                exact hA
              · rw [upd_ne q] at hb
                exact e3.ms b o hb
            · by_cases q : b = Da
              · subst q
                rw [upd_same] at hb
                cases hb
                exact True.intro
              · rw [upd_ne q] at hb
                exact e3.nt.kd b o hb
            · by_cases q : b = Da
              · subst q
                rw [upd_same] at hb
                cases hb
              · rw [upd_ne q] at hb
                exact hb
            · by_cases q : b = Da
              · subst q
                exact .inr frD
              · rw [upd_ne q] at hb
                exact e3.nw b o hb
        · have f1 : Fin K mg T M1 H1 Q E (if ys.length ≤ LIM then Out.ok (.lst ys) else .bad) := f1
          rw [if_neg hlen] at f1
          exact f1.elim
    | _ => exact f1.elim
theorem e_lcH {elt iter : Expr} {x : Str} {px pos : Pos} {scope : Scope} {m me : Env → Out D} (j : Nat) (hot : L2H.HotC X) (hN : X.N.Nodup) (hi : PEm X T E iter m) (ok : BlkOk X.N X.env.scope scope [(x, j)])
    (hg : ∀ (s : Shared) (H : Hp) (C : Addr) (cl : List (Str × Addr)) (fp : List Addr), PG (Blk X scope s H C cl fp) (.Name x px) (gP X.K (.nm j)))
    (he : ∀ (s : Shared) (H : Hp) (C : Addr) (cl : List (Str × Addr)) (fp : List Addr), PEm (Blk X scope s H C cl fp) T E0 elt me) (hs : ∀ y, foldedSetIterable iter X.env y = pure y := by intro _; rfl) :
    PEm X T E (.ListComp elt [⟨.Name x px, iter, [], 0⟩] scope pos) (mComp [j] (.nm j) (mItL m) tYesM me) :=
  weakE (pe_lcH hot hN hi ok hg he hs) fun _ _ _ h => tLcH_of h

/-- isinstance(e, c), e a pinned exception of the class at D -/
theorem call_isP {a D : Addr} {oe : Obj} (C : ExcC X.K D) (hz : Zc (.ref D) none oe) (hf : ∃ vs, oe.data = .fields vs) (hp : (a, oe) ∈ X.pn) : CallR X (.builtin "isinstance") (rIsE X.K D a) := by
  intro pins s σ H xs us Q I r h
  obtain ⟨c, cv, b, rfl, hcv, e, q⟩ := h
  obtain ⟨u1, u2, rfl, rx, rt⟩ := vals2 r
  cases rx
  have ec := hcv _ rt
  subst ec
  obtain ⟨hget, _⟩ := I.pin (a, oe) (List.mem_append_left _ hp)
  obtain ⟨vs, hv⟩ := hf
  have J : PySem.W.InstAt s.heap a oe D none := by
    obtain ⟨oc, od, oda, osl⟩ := oe
    obtain ⟨h1, h2⟩ := hz
    dsimp only at h1 h2 hv
    subst h1 h2 hv
    exact ⟨hget, rfl, rfl, trivial⟩
  exact PySem.W.kia_one (PySem.W.handS_kitx_exc C.hg C.hk C.hs C.hd C.ha C.hn C.ht C.hm) I.kIn J e (fun z => nomatch z) fun tk => ⟨.bl b, H, I.tok tk, rfl, q⟩
/-- the class of the name c, at D, among the classes of these names -/
structure WordK (K : PySem.W.Frag) (mg : Str → Option Value) (ns : List Str) (c : Str) (D : Addr) : Prop where
  ex : ExcC K D
  ve : PySem.W.kitOne K (.ref D) (.type "ValueError") = some true
  is : ∀ y ∈ ns, ∀ C, mg y = some (.ref C) → PySem.W.kitOne K (.ref D) (.ref C) = some (decide (y = c))
def dIsW (ns : List Str) (c : Str) (a : Addr) : D → D → Out D
  | .opq a', .fn y => if a' = a ∧ y ∈ ns then .ok (.bl (decide (y = c))) else .bad
  | .opq a', .ty n => if a' = a ∧ n = "ValueError" then .ok (.bl true) else .bad
  | _, _ => .bad
theorem nx_isW {ns : List Str} {c : Str} {a : Addr} : noX (dIsW ns c a) := fun x y z h => by
  unfold dIsW at h
  split at h
  · split at h <;> cases h
  · split at h <;> cases h
  · cases h
theorem cd_isW {ns : List Str} {c : Str} {a D : Addr} (W : WordK K mg ns c D) : CallD K mg T (rIsE K D a) (c2 (dIsW ns c a)) := cd_2 fun x y dx dy M H Q d s nt rx ry hf q => by
  cases rx with
  | opq a' =>
    cases ry with
    | @fn yn f hm =>
      have hf : (if a' = a ∧ yn ∈ ns then Out.ok (.bl (decide (yn = c))) else .bad) = .ok d := hf
      by_cases h : a' = a ∧ yn ∈ ns
      · rw [if_pos h] at hf
        cases hf
        obtain ⟨rfl, h2⟩ := h
        exact ⟨.ref f, .ref f, _, rfl, fun u r => r, W.is yn h2 f hm, q _ _ _ (Ext.refl s nt) (.bl _)⟩
      · rw [if_neg h] at hf
        cases hf
    | ty n =>
      have hf : (if a' = a ∧ n = "ValueError" then Out.ok (.bl true) else .bad) = .ok d := hf
      by_cases h : a' = a ∧ n = "ValueError"
      · rw [if_pos h] at hf
        cases hf
        obtain ⟨rfl, rfl⟩ := h
        exact ⟨.ty "ValueError", .type "ValueError", _, rfl, fun u r => r, W.ve, q _ _ _ (Ext.refl s nt) (.bl _)⟩
      · rw [if_neg h] at hf
        cases hf
    | _ => cases hf
  | _ => cases ry <;> cases hf
theorem b_isW {ns : List Str} {c : Str} {a D : Addr} {oe : Obj} (W : WordK X.K X.mg ns c D) (hz : Zc (.ref D) none oe) (hf : ∃ vs, oe.data = .fields vs) (hp : (a, oe) ∈ X.pn) (hm : X.mg "isinstance" = none) : Bt X T "isinstance" (c2 (dIsW ns c a)) :=
  .fn (call_isP W.ex hz hf hp) (cd_isW W) (nx_c2 nx_isW) hm (by decide +kernel) (by decide) (by decide)
/-- a def of one argument, the handled exception itself, called while it is handled -/
theorem pe_hot {x : Str} {params : Arguments} {body : List Stmt} {scope : Scope} {f a : Addr} {fd : FuncData} {N : List Str} {pr : Str} {k : Nat} {m : Env → SO} {oe : Obj} {e : Expr} {te : TE} {q pos : Pos} {d : D} (F : FunD X.K x x params body scope [] [] f fd) (S : FnScope N [pr] scope) (hg : Gl X x) (hm : X.mg x = some (.ref f))
    (hb : ∀ (kV doc pm : Value) (an : Option Addr) (cdv ct : Value) (us : List Value), us.length = 1 → bindArgs (PySem.W.fnOf x x params body scope .none kV doc pm an cdv ct) ⟨us, []⟩ = pure (([pr] : List Str).zip us))
    (hr : L2H.RoomH (k + 1) X.A) (hot : L2H.Hot1 X.A (a, oe)) (hp : (a, oe) ∈ X.pn) (he : PE X e te)
    (hbody : ∀ (cdv : Value) (A : Around) (outer : List PySem.Env) (s : Shared) (H : Hp), L2H.RoomH k (A.deeper (envOfC x scope s.heap.objs.size f cdv)) → L2H.Hot1 A (a, oe) →
      PSsm (L2H.cxH CX0 X.prog X.w X.K X.mg X.base N x scope f cdv A outer s H E0 (a, oe)).nox T E0 body m)
    (hd : defM 1 (N.length - 1) m [.opq a] = .ok d) (hdb : (x == ("__debug__" : Str)) = false := by decide) (hs : starEach [e] X.env = (false, eval e X.env) :: starEach [] X.env := by rfl) :
    PE X (.Call (.Name x q) [e] [] pos) (fun σ H Q => te σ H fun v H1 => v = .ref a ∧ Tabs T H1 ∧ ∃ M0, Same M0 H1 ∧ NoT T M0 H1 ∧ ∀ v' H' M', Ext T M0 H1 M' H' → Rp X.K X.mg M' v' d → Q v' H') := by
  refine ⟨fun pins s σ H Q I h => ?_⟩
  refine wpAny_Call_Name_kw (ld_glob I hg hm ?_ hdb)
  refine PySem.W.callWith_K (h₀ := X.base) I.ok.mod.kin F.kp (thn ((pa_cons he pa_nil hs).run pos pins s σ H (fun vs H1 => match vs with
    | [v] => v = .ref a ∧ Tabs T H1 ∧ ∃ M0, Same M0 H1 ∧ NoT T M0 H1 ∧ ∀ v' H' M', Ext T M0 H1 M' H' → Rp X.K X.mg M' v' d → Q v' H'
    | _ => False) I h) fun us s1 ⟨vs, H1, I1, r1, q1⟩ => ⟨I1.kIn, ?_⟩) hs rfl
  obtain ⟨v, rfl⟩ : ∃ v, vs = [v] := by
    cases vs with
    | nil => exact q1.elim
    | cons v t =>
      cases t with
      | nil => exact ⟨v, rfl⟩
      | cons _ _ => exact q1.elim
  obtain ⟨hv, htb, M0, hM1, hM2, hQ⟩ := q1
  subst hv
  obtain ⟨u1, rfl, ru⟩ := vals1 r1
  cases ru
  have P1 := I1.pin (a, oe) (List.mem_append_left _ hp)
  have hpin : L2H.PinOk X.stack H1 s1 (a, oe) := ⟨P1.1, P1.2.1, fun hm => (List.mem_cons.mp (I1.stkSub a hm)).elim P1.2.2.1 P1.2.2.2.1, P1.2.2.2.2⟩
  have b := F.bindsA (ps := [pr]) hb s1 [.ref a] rfl
  obtain ⟨oc, od, dV, kV, doc, pm, an, cdv, ct, osl, rfl, lk, hcd, _, _⟩ := F.ex
  have e0 := I1.env0
  have lim : s1.heap.NoLimit := I1.nolimit
  have KX : X.K.In s1.heap := I1.kIn
  have hkind : ∀ y ∈ ([pr] : List Str).zip [Value.ref a], scope.names.lookup y.1 = some .local ∨ (scope.names.lookup y.1 = some .cell ∧ ((cellsFrom (s1.heap.objs.size + 1) scope.names []).lookup y.1).isSome = true) := fun ⟨n, v⟩ hy => by
    rcases S.par n (List.of_mem_zip hy).1 with q | q
    · exact .inl q
    · exact .inr ⟨q, PySem.W.cellsFrom_some _ _ _ (.inl q)⟩
  have run : codeAny (model X.prog X.w) X.A (.call (.ref f) ⟨[.ref a], []⟩) (CR CX0 X.stack X.prog X.w H1 s1 Q E0) s1 := by
    refine codeAny_call_function hr.depth (KX _ _ lk) rfl S.co S.gen rfl (PySem.W.codeRec_of KX hcd) (b _ _ _ _ ?_)
    refine wpAny_newFunctionEnv_cells S.kind hkind fun env he s2 xc => ?_
    subst he
    refine ⟨lim.keeps xc.toInCall.keep, codeAny_func ?_⟩
    have J : L2.Inv (L2H.cxH CX0 X.prog X.w X.K X.mg X.base N x scope f cdv X.A X.stack s1 H1 E0 (a, oe)) [] (L2.start N [.ref a]) H1 s2 := L2H.inv_startH S hpin e0 rfl (.cons rfl .nil) xc
    have hq : sOf X.K X.mg T E0 m { nx := fun _ H' => Q .non H', rt := Q } (L2.start N [.ref a]) H1 := by
      refine body_of (n := 1) ⟨rfl, htb, M0, [.opq a], hM1, hM2, .cons (.opq a) .nil, ?_⟩
      rw [hd]
      exact hQ
    refine wpAny_mono (((hbody cdv X.A X.stack s1 H1 (hr.deeper _) hot).nox).run [] s2 (L2.start N [.ref a]) H1 _ J hq) (fun fl s' hs => ?_) fun e s' hs => hs
    have fin : ∀ {σ' : L2.St} {H' : Hp} {v : V} {u : Value}, L2.Inv (L2H.cxH CX0 X.prog X.w X.K X.mg X.base N x scope f cdv X.A X.stack s1 H1 E0 (a, oe)) [] σ' H' s' → L2.RelV v u → Q v H' → CE X.stack X.prog X.w H1 s1 Q u s' :=
      fun {σ' H' v u} J rv q => ⟨v, H', J.os, J.bare, J.base, J.hok, rv, q⟩
    cases fl with
    | ret u =>
      obtain ⟨v, σ', H', J, rv, q⟩ := hs
      exact fin J rv q
    | next =>
      obtain ⟨σ', H', J, q⟩ := hs
      exact fin (v := V.non) (u := Value.none) J rfl q
    | brk =>
      obtain ⟨_, _, _, q⟩ := hs
      exact False.elim q
    | cont =>
      obtain ⟨_, _, _, q⟩ := hs
      exact False.elim q
  refine wpAny_call (codeAny_mono run fun r s' hq => ?_)
  cases r with
  | error e => exact (show False from hq).elim
  | ok fl =>
    cases fl with
    | ret u => exact I1.after hq
    | next => exact False.elim hq
    | brk => exact False.elim hq
    | cont => exact False.elim hq
end FL
set_option Elab.async false
set_option linter.all false
set_option maxRecDepth 100000
set_option maxHeartbeats 2000000
namespace FL
open PySem PySem.Spec PyProof.Rows L2 LamX
variable {K : PySem.W.Frag} {mg : Str → Option Value} {T : Tb} {H0 M0 M M' M1 M2 H H' H1 H2 : Hp} {Γ Γ' : Env} {σ σ' : L2.St} {E : XK} {X : Cx}
/-! ### a lambda without parameters, handed to a def that calls it in a try -/
/-- the context of its body; what leaves it has no context of its own -/
def lamN (X : Cx) (A : Around) (outer : List PySem.Env) (s : Shared) (H : Hp) (E : XK) (scope : Scope) (f c' : Addr) : Cx :=
  (lamCx X A outer s H E scope f c').wish fun e s' => wpAny (model X.prog X.w) (A.deeper (lamEnv X scope s.heap.objs.size f c')) (leaving (lamEnv X scope s.heap.objs.size f c') e) (fun _ s'' => L2N.CX X.prog X.w outer H s E e s'') (fun e' s'' => L2N.CX X.prog X.w outer H s E e' s'') s'
theorem takesL {A : Around} {outer : List PySem.Env} {s : Shared} {scope : Scope} {f c' : Addr} : L2N.Takes (lamN X A outer s H E scope f c') (fun cls d _ H => E cls d H) := L2N.takes_of rfl rfl rfl rfl
theorem passLam {A : Around} {outer : List PySem.Env} {s : Shared} {scope : Scope} {f c' : Addr} : Passes (L2N.CX (lamN X A outer s H E scope f c').prog (lamN X A outer s H E scope f c').w) (lamN X A outer s H E scope f c') E := L2N.passes_call takesL fun _ _ _ _ h => h
theorem takes0N {X : Cx} : L2N.Takes X (fun _ _ _ _ => False) := fun _ _ x => by
  obtain ⟨_, _, _, _, _, _, _, _, _, _, _, _, _, _, _, _, z⟩ := x
  exact z.elim
/-- a(): the def that got it calls it -/
theorem pe_actN {CXg : CXT} {Eg : XK} {Ng : List Str} {qg : Str} {sg : Scope} {g f c' : Addr} {cdg pm ctv : Value} {params : Arguments} {body : Expr} {scope : Scope} {k i : Nat} {a : Str} {pins pn : List (Addr × Obj)} {s : Shared} {xe : Value → Shared → Prop} {W : WX} {E : XK} {tb : TE} {p1 p2 : Pos}
    (I : L2.Inv X pins σ H s) (L : LamS X.env.scope scope) (hf : s.heap.get? f = some (PySem.W.kla_obj "<lambda>" (X.env.qual ++ "<lambda>") params body scope (cloFrom X.env.cells scope.names []) pm c' ctv)) (hfn : H f = none) (hfr : f ∉ frs X.stack)
    (hbind : bindArgs (PySem.W.kla_fn "<lambda>" (X.env.qual ++ "<lambda>") params body scope (cloFrom X.env.cells scope.names []) pm (.ref c') ctv) ⟨[], []⟩ = pure [])
    (tk : L2N.Takes ((cxOf CXg X.prog X.w X.K X.mg X.base Ng qg sg g cdg X.A X.stack s H Eg).nox.tr pn xe) W) (hr : Room (k + 1) (X.A.deeper (envOfC qg sg s.heap.objs.size g cdg)))
    (hbody : ∀ (A : Around) (outer : List PySem.Env) (s : Shared) (H : Hp), Room k (A.deeper (lamEnv X scope s.heap.objs.size f c')) → PE (lamN X A outer s H E scope f c') body tb)
    (hN : Ng[i]? = some a) (hv : Vis sg a) (hd : (a == ("__debug__" : Str)) = false) (hcd : (a == ("__classdict__" : Str)) = false) :
    PE ((cxOf CXg X.prog X.w X.K X.mg X.base Ng qg sg g cdg X.A X.stack s H Eg).nox.tr pn xe) (.Call (.Name a p1) [] [] p2)
      (fun σZ HZ Q => (∀ cls d H', E cls d H' → W cls d σZ H') ∧ σZ[i]? = some (some (.ref f)) ∧ HZ c' = some (CodeO c' (X.env.qual ++ "<lambda>")) ∧ tb σ HZ Q) := by
  refine ⟨fun pinsZ sZ σZ HZ Q IZ h => ?_⟩
  obtain ⟨hW, hs, hc, ht⟩ := h
  refine wpAny_Call_Name_kw (thn ((pe_var (pos := p1) (i := i) hN hv hd hcd).run pinsZ sZ σZ HZ (fun v H1 => v = .ref f ∧ H1 = HZ) IZ ⟨.ref f, hs, rfl, rfl⟩) fun u s1 ⟨v, H1, I1, r1, q1⟩ => ?_)
  obtain ⟨rfl, rfl⟩ := q1
  cases r1
  have un : Un (frs X.stack) [] H H1 s.heap s1.heap := I1.base
  have of1 := un.keep f _ hf hfn hfr (fun z => nomatch (show f ∈ ([] : List Addr) from z))
  refine PySem.W.callWith_F0 ⟨_, _, _, _, of1⟩ ?_
  obtain ⟨⟨oc, vs, t, hoc, hdc, hvc⟩, _, _⟩ := I1.hok c' _ hc
  have rc : codeAny (model X.prog X.w) (X.A.deeper (envOfC qg sg s.heap.objs.size g cdg)) (.call (.ref f) ⟨[], []⟩) (CR (L2N.CX X.prog X.w) (envOfC qg sg s.heap.objs.size g cdg :: X.stack) X.prog X.w H1 s1 Q E) s1 := by
    refine PySem.W.kla_callFunE hr.depth of1 rfl L.co L.gen rfl ⟨c', oc, vs, t, rfl, hoc, hdc, hvc⟩ ?_
    rw [hbind]
    refine wpAny_pure (wpAny_newFunctionEnv (fun y hy => (L.own y hy).2) (fun y hy => absurd hy (by simp)) (fun h₁ hns hsb => ⟨I1.nolimit.fresh _ hsb, ?_⟩) L.kind)
    show codeAny _ _ (.expr body (lamEnv X scope s1.heap.objs.size f c')) _ _
    have kp : ∀ b o, s1.heap.get? b = some o → h₁.get? b = some o := fun b o e => hsb.extBut b o (Nat.ne_of_lt (Heap.lt_size e)) (Heap.get?_push_of_some _ e)
    have J0 : L2.Inv (lamCx X (X.A.deeper (envOfC qg sg s.heap.objs.size g cdg)) (envOfC qg sg s.heap.objs.size g cdg :: X.stack) s1 H1 E scope f c') [] σ H1 { s1 with heap := h₁, toks := s1.toks + ([] : List (Str × Value)).length } :=
      lam_start2 I L I1.env0 hr.hd un hns kp
    have J : L2.Inv (lamN X (X.A.deeper (envOfC qg sg s.heap.objs.size g cdg)) (envOfC qg sg s.heap.objs.size g cdg :: X.stack) s1 H1 E scope f c') [] σ H1 { s1 with heap := h₁, toks := s1.toks + ([] : List (Str × Value)).length } := J0.wish _
    refine PySem.W.kla_codeExpr (wpAny_mono ((hbody _ _ s1 H1 (hr.deeper _)).run [] _ _ H1 Q J ht) (fun v s' hq => ?_) fun e s' hq => hq)
    obtain ⟨w', H', J', rv, q⟩ := hq
    exact ⟨w', H', J'.os, J'.bare, J'.base, J'.hok, rv, q⟩
  refine wpAny_call (codeAny_mono rc fun r s' hq => ?_)
  cases r with
  | error e => exact tk e s' (L2N.XE.of_call I1 hW hq)
  | ok fl =>
    cases fl with
    | ret u => exact I1.after hq
    | next => exact False.elim hq
    | brk => exact False.elim hq
    | cont => exact False.elim hq
def mTold (ns : List Str) (m : Env → Out D) : Env → Out D := fun Γ => match m Γ with
  | .ok d => .ok d
  | .exc c => if c ∈ ns then .ok (.str c) else .bad
  | .bad => .bad
/-- what the head must say of the two defs: told (g: try: return deed() .. except e as n: return word(n)) and word -/
structure Told (P : Program) (w : World) (K : PySem.W.Frag) (mg : Str → Option Value) (base : Heap) (T : Tb) (ns : List Str) (bad : Str) (x wd a n : Str) (kw : Nat) : Prop where
  ex : ∃ (g CS fw : Addr) (fd fdw : FuncData) (params paramsw : Arguments) (sg sw : Scope) (bw : List Stmt) (Nw : List Str) (pw : Str) (p1 p2 p3 p4 p5 p6 p7 p8 p9 p10 p11 : Pos) (mw : Str → Addr → Env → SO),
    FunD K x x params [.Try [.Return (some (.Call (.Name a p1) [] [] p2)) p3] [.ExceptHandler (some (.Name bad p4)) (some n) [.Return (some (.Call (.Name wd p5) [.Name n p6] [] p7)) p8] p9] [] [] p10] sg [] [] g fd ∧ mg x = some (.ref g) ∧
    FnScope [a, n] [a] sg ∧ sg.names.lookup n = some .local ∧ Vis sg a ∧ sg.names.lookup bad = some .globalImplicit ∧ sg.names.lookup wd = some .globalImplicit ∧
    (∀ (kV doc pm : Value) (an : Option Addr) (cdv ct : Value) (us : List Value), us.length = 1 → bindArgs (PySem.W.fnOf x x params [.Try [.Return (some (.Call (.Name a p1) [] [] p2)) p3] [.ExceptHandler (some (.Name bad p4)) (some n) [.Return (some (.Call (.Name wd p5) [.Name n p6] [] p7)) p8] p9] [] [] p10] sg .none kV doc pm an cdv ct) ⟨us, []⟩ = pure (([a] : List Str).zip us)) ∧
    FunD K wd wd paramsw bw sw [] [] fw fdw ∧ mg wd = some (.ref fw) ∧ FnScope Nw [pw] sw ∧
    (∀ (kV doc pm : Value) (an : Option Addr) (cdv ct : Value) (us : List Value), us.length = 1 → bindArgs (PySem.W.fnOf wd wd paramsw bw sw .none kV doc pm an cdv ct) ⟨us, []⟩ = pure (([pw] : List Str).zip us)) ∧
    mg bad = some (.ref CS) ∧ (∀ c ∈ ns, ∀ C, mg c = some (.ref C) → PySem.W.exmOne K (.ref C) (.ref CS) = some true) ∧
    (∀ c ∈ ns, ∀ C, mg c = some (.ref C) → ∀ (ad : Addr) (oe : Obj), Zc (.ref C) none oe → (∃ vs, oe.data = .fields vs) → ∀ (cdv : Value) (A : Around) (outer : List PySem.Env) (s : Shared) (H : Hp), L2H.RoomH kw (A.deeper (envOfC wd sw s.heap.objs.size fw cdv)) → L2H.Hot1 A (ad, oe) →
      PSsm (L2H.cxH CX0 P w K mg base Nw wd sw fw cdv A outer s H E0 (ad, oe)).nox T E0 bw (mw c ad)) ∧
    (∀ c ∈ ns, ∀ ad, defM 1 (Nw.length - 1) (mw c ad) [.opq ad] = .ok (.str c))
theorem e_told {ns : List Str} {bad x wd a n : Str} {kw k : Nat} {c P : Addr} {m : Env → Out D} {params : Arguments} {body : Expr} {scope : Scope} {p lpos pos : Pos} (TD : Told X.prog X.w X.K X.mg X.base T ns bad x wd a n kw) (TB : TabB X.base X.mg c P) (hmT : (P, X.env.qual ++ "<lambda>") ∈ T.tabs) (hu : ∀ p ∈ T.tabs, p.1 = P → p.2 = X.env.qual ++ "<lambda>") (hcode : X.env.code = .ref c)
    (hr : Room (k + 2) X.A) (hkw : kw ≤ k) (L : LamS X.env.scope scope) (hg : Gl X x) (hdef : defaultsOf params X.env = ([], []))
    (hbind : ∀ (q : Str) (cl : List (Str × Addr)) (pm cv ctv : Value), bindArgs (PySem.W.kla_fn "<lambda>" q params body scope cl pm cv ctv) ⟨[], []⟩ = pure [])
    (hbody : ∀ (A : Around) (outer : List PySem.Env) (s : Shared) (H : Hp) (E : XK) (f c' : Addr), Room k (A.deeper (lamEnv X scope s.heap.objs.size f c')) → PEm (lamN X A outer s H E scope f c') T E body m)
    (hdb : (x == ("__debug__" : Str)) = false := by decide) (hda : (a == ("__debug__" : Str)) = false := by decide) (hca : (a == ("__classdict__" : Str)) = false := by decide) (hdn : (n == ("__debug__" : Str)) = false := by decide) (hcn : (n == ("__classdict__" : Str)) = false := by decide)
    (hdbad : (bad == ("__debug__" : Str)) = false := by decide) (hdw : (wd == ("__debug__" : Str)) = false := by decide) :
    PEm X T E (.Call (.Name x p) [.Lambda params body scope lpos] [] pos) (mTold ns m) := by
  obtain ⟨g, CS, fw, fd, fdw, parg, paramsw, sg, sw, bw, Nw, pw, p1, p2, p3, p4, p5, p6, p7, p8, p9, p10, p11, mw, F, hm, Sg, hln, hva, hgb, hgw, hb, Fw, hmw, Sw, hbw, hbad, hexm, hword, hval⟩ := TD.ex
  refine ⟨fun pins s σ H Q I h => ?_⟩
  obtain ⟨Γ, M, H0, rs, fin⟩ := h
  refine wpAny_Call_Name_kw (ld_glob I hg hm ?_ hdb)
  refine PySem.W.callWith_K (h₀ := X.base) I.ok.mod.kin F.kp ?_ (by rfl) (by rfl)
  show wpAny _ _ (spliced ((false, eval (.Lambda params body scope lpos) X.env) :: backTo pos (starEach [] X.env))) _ _ s
  refine Calls.spliced_cons (lam_make2 I TB hcode hmT hu rs.tb hdef (L.has I.ok) fun f c' pm' ctv H1 s' I1 eN T1 hf hfn hfr hco => ?_)
  refine Calls.spliced_nil ⟨I1.kIn, ?_⟩
  -- the heap behind the making
  have e1 : Ext T M H M H1 := Ext.ofN rs.ms rs.nt eN (fun _ => T1)
  have rs1 := rs.ext e1
  obtain ⟨oc, od, dV, kV, doc, pm, an, cdv, ct, osl, rfl, lk, hcd, hD0, hK0⟩ := F.ex
  have bb := F.bindsN (ps := [a]) hb
  have rc : codeAny (model X.prog X.w) X.A (.call (.ref g) ⟨[.ref f], []⟩) (CR CX0 X.stack X.prog X.w H1 s' Q E0) s' := by
    have b1 := bb s' [.ref f] I1.kIn rfl
    refine run_ofS (N := [a, n]) (ps := [a]) (us := [.ref f]) (vs := [.ref f]) lk hcd Sg hr I1.env0 b1 (.cons rfl .nil) rfl fun hr' => ?_
    -- what is wished of an exception of the body
    let Ech : XK := fun cls d H' => ∃ c C, c ∈ ns ∧ cls = .ref C ∧ d = none ∧ X.mg c = some (.ref C) ∧ Tabs T H' ∧ ∃ M0, Same M0 H' ∧ NoT T M0 H' ∧ ∀ H2 M2, Ext T M0 H' M2 H2 → Q (.str c) H2
    let ts : Addr → Value → Option Addr → TS := fun ad cls d D σ H => ∃ c C, c ∈ ns ∧ cls = .ref C ∧ d = none ∧ X.mg c = some (.ref C) ∧ σ[1]? = some (some (.ref ad)) ∧ Tabs T H ∧ ∃ M0, Same M0 H ∧ NoT T M0 H ∧ ∀ H2 M2, Ext T M0 H M2 H2 → D.rt (.str c) H2
    refine ⟨_, PSs.nox (pss_one (L2N.ps_try_as (X := (cxOf CX0 X.prog X.w X.K X.mg X.base [a, n] x sg g cdv X.A X.stack s' H1 E0).nox) (c := .ref CS) (i := 1) (n := n) (ts := ts) (Wout := fun _ _ _ _ => False)
      (tb := fun W D σZ HZ => (∀ cls d H', Ech cls d H' → W cls d σZ H') ∧ σZ[0]? = some (some (.ref f)) ∧ HZ c' = some (CodeO c' (X.env.qual ++ "<lambda>")) ∧ tOf X.K X.mg T Ech m σ HZ D.rt)
      rfl rfl Sg.nd rfl hln ⟨hgb, hdbad, .inl hbad⟩ takes0N (fun W pn xe tk _ => ?_) (fun ad oe cls d pn hz hfl => ?_))), ?_⟩
    · refine ⟨fun pins2 s2 σ2 H2 D2 I2 h2 => ?_⟩
      obtain ⟨hW, k1, k2, k3⟩ := h2
      have act := pe_actN (p1 := p1) (p2 := p2) (i := 0) (a := a) (E := Ech) (tb := tOf X.K X.mg T Ech m) I1 L hf hfn hfr (hbind _ _ _ _ _) tk hr' (fun A outer s H hr2 => hbody A outer s H Ech f c' hr2) rfl hva hda hca
      exact (pss_one (ps_ret (pos := p3) act)).run pins2 s2 σ2 H2 D2 I2 ⟨hW, k1, k2, k3⟩
    · refine ⟨fun pins2 s2 σ2 H2 D2 I2 h2 => ?_⟩
      obtain ⟨c, C, hc, rfl, rfl, hmc, hσ, htb, M0, hM1, hM2, hQ⟩ := h2
      obtain ⟨vs, hvs⟩ := hfl
      have hot : L2H.Hot1 (X.A.deeper (envOfC x sg s'.heap.objs.size g cdv) |>.mark (some (.ref ad))) (ad, oe) := ⟨rfl, vs, hvs, hz.2.2 vs hvs⟩
      have hrH : L2H.RoomH (kw + 1) ((X.A.deeper (envOfC x sg s'.heap.objs.size g cdv)).mark (some (.ref ad))) := ⟨by have := hr'.dp; show (X.A.deeper (envOfC x sg s'.heap.objs.size g cdv)).depth + 3 * (kw + 1) + 5 < recursionLimit; omega, by have := hr'.un; show (X.A.deeper (envOfC x sg s'.heap.objs.size g cdv)).units + 16 * (kw + 1) + 200 < cLine; omega⟩
      have pw1 := pe_hot (X := ((cxOf CX0 X.prog X.w X.K X.mg X.base [a, n] x sg g cdv X.A X.stack s' H1 E0).nox).suite ad ((ad, oe) :: pn)) (T := T) (q := p5) (pos := p7) (e := .Name n p6) (te := tVar 1) (a := ad) (oe := oe) (d := .str c) (k := kw) Fw Sw hgw hmw hbw hrH hot List.mem_cons_self (pe_var (i := 1) rfl (.inl hln) hdn hcn)
        (fun cdv2 A2 outer2 s2 H2 hr2 hot2 => hword c hc C hmc ad oe ⟨hz.1, hz.2.1⟩ ⟨vs, hvs⟩ cdv2 A2 outer2 s2 H2 hr2 hot2) (hval c hc ad) hdw rfl
      refine (pss_one (ps_ret (pos := p8) pw1)).run pins2 s2 σ2 H2 D2 I2 ⟨.ref ad, hσ, rfl, htb, M0, hM1, hM2, fun v' H' M' e' r' => ?_⟩
      cases r'
      exact hQ H' M' e'
    · -- the reading of the try
      refine ⟨fun cls d H' hE => ?_, rfl, hco, Γ, M, H0, rs1, ?_⟩
      · obtain ⟨c, C, hc, rfl, rfl, hmc, htb, hQ⟩ := hE
        refine ⟨true, hexm c hc C hmc, fun _ ad _ => ⟨c, C, hc, rfl, rfl, hmc, rfl, htb, hQ⟩, fun z => Bool.noConfusion z⟩
      · have fin1 := Fin.up fin e1
        unfold mTold at fin1
        cases qm : m Γ with
        | ok d =>
          rw [qm] at fin1
          exact fin1
        | bad =>
          rw [qm] at fin1
          exact fin1
        | exc cc =>
          rw [qm] at fin1
          have fin1 : Fin X.K X.mg T M H1 Q E (if cc ∈ ns then Out.ok (.str cc) else .bad) := fin1
          by_cases hcc : cc ∈ ns
          · rw [if_pos hcc] at fin1
            intro C H2 M2 e2 hmC
            refine ⟨cc, C, hcc, rfl, rfl, hmC, e2.tb rs1.tb, M2, e2.ms, e2.nt, fun H3 M3 e3 => ?_⟩
            exact fin1 _ _ _ (e2.trans e3) (.str cc)
          · rw [if_neg hcc] at fin1
            exact fin1.elim
  refine wpAny_call (codeAny_mono rc fun r s2 hq => ?_)
  cases r with
  | error e => exact (show False from hq).elim
  | ok fl =>
    cases fl with
    | ret u => exact I1.after hq
    | next => exact False.elim hq
    | brk => exact False.elim hq
    | cont => exact False.elim hq
end FL
set_option Elab.async false
set_option linter.all false
set_option maxRecDepth 100000
set_option maxHeartbeats 2000000
namespace FL
open PySem PySem.Spec PyProof.Rows L2 LamX
variable {K : PySem.W.Frag} {mg : Str → Option Value} {T : Tb} {H0 M0 M M' M1 M2 H H' H1 H2 : Hp} {Γ Γ' : Env} {σ σ' : L2.St} {E : XK} {X : Cx}
/-- the table of the def x's lambdas -/
def LamI (K : PySem.W.Frag) (mg : Str → Option Value) (base : Heap) (T : Tb) (x : Str) : Prop :=
  ∃ P, TabB base mg (He.codeOf K (x, none)) P ∧ (P, (x ++ ".<locals>.") ++ "<lambda>") ∈ T.tabs ∧ ∀ p ∈ T.tabs, p.1 = P → p.2 = (x ++ ".<locals>.") ++ "<lambda>"
/-- a def that makes lambdas -/
theorem def_okL {P : Program} {w : World} {base : Heap} {x : Str} {params : Arguments} {body : List Stmt} {scope : Scope} {fd : FuncData} {N ps : List Str} {k : Nat} {m : Env → SO} (n : Nat) (F : FunD K x x params body scope [] [] (He.ga K x) fd) (S : FnScope N ps scope) (hn : ps.length = n) (hg : mg x = some (.ref (He.ga K x)))
    (hb : ∀ (kV doc pm : Value) (an : Option Addr) (cdv ct : Value) (us : List Value), us.length = ps.length → bindArgs (PySem.W.fnOf x x params body scope .none kV doc pm an cdv ct) ⟨us, []⟩ = pure (ps.zip us))
    (hbody : ∀ (cdv : Value) (A : Around) (outer : List PySem.Env) (s : Shared) (H : Hp) (E : XK), cdv = .ref (He.codeOf K (x, none)) → Room k (A.deeper (envOfC x scope s.heap.objs.size (He.ga K x) cdv)) →
      PSsm (cxOf (L2N.CX P w) P w K mg base N x scope (He.ga K x) cdv A outer s H E) T E body m) : FnI P w K mg base T (k + 1) x n (defM n (N.length - n) m) := by
  have kp := F.kp
  have bn := F.bindsN hb
  obtain ⟨oc, od, dV, kV, doc, pm, an, cdv, ct, osl, rfl, lk, hcd, _, _⟩ := F.ex
  obtain ⟨c, hc⟩ := He.codeIn_ref hcd
  have e : cdv = .ref (He.codeOf K (x, none)) := by
    rw [hc]
    exact congrArg Value.ref (He.codeOf_eq (p := (x, none)) lk hc).symm
  exact ⟨He.ga K x, _, ps, hg, kp, bn, fn_of lk hcd S (fun vs H Q E h => h.1.trans hn.symm) fun A outer s H vs Q E hr h => ⟨_, hbody cdv A outer s H E e hr, body_of h⟩⟩
/-- the law itself -/
theorem def_okF {P : Program} {w : World} {base : Heap} {x : Str} {params : Arguments} {body : List Stmt} {scope : Scope} {fd : FuncData} {N ps : List Str} {k : Nat} {m : Env → SO} (n : Nat) (F : FunD K x x params body scope [] [] (He.ga K x) fd) (S : FnScope N ps scope) (hn : ps.length = n)
    (hbody : ∀ (cdv : Value) (A : Around) (outer : List PySem.Env) (s : Shared) (H : Hp) (E : XK), cdv = .ref (He.codeOf K (x, none)) → Room k (A.deeper (envOfC x scope s.heap.objs.size (He.ga K x) cdv)) →
      PSsm (cxOf (L2N.CX P w) P w K mg base N x scope (He.ga K x) cdv A outer s H E) T E body m) : FnOk P w K mg base (L2N.CX P w) (k + 1) (He.ga K x) fd ps (spOf K mg T n (defM n (N.length - n) m)) := by
  obtain ⟨oc, od, dV, kV, doc, pm, an, cdv, ct, osl, rfl, lk, hcd, _, _⟩ := F.ex
  obtain ⟨c, hc⟩ := He.codeIn_ref hcd
  have e : cdv = .ref (He.codeOf K (x, none)) := by
    rw [hc]
    exact congrArg Value.ref (He.codeOf_eq (p := (x, none)) lk hc).symm
  exact fn_of lk hcd S (fun vs H Q E h => h.1.trans hn.symm) fun A outer s H vs Q E hr h => ⟨_, hbody cdv A outer s H E e hr, body_of h⟩
theorem e_td {ns : List Str} {bad x wd a n y : Str} {kw k : Nat} {m : Env → Out D} {params : Arguments} {body : Expr} {scope : Scope} {p lpos pos : Pos} (TD : Told X.prog X.w X.K X.mg X.base T ns bad x wd a n kw) (LI : LamI X.K X.mg X.base T y) (hcode : X.env.code = .ref (He.codeOf X.K (y, none))) (hq : X.env.qual = y ++ ".<locals>.")
    (hr : Room (k + 2) X.A) (hkw : kw ≤ k) (L : LamS X.env.scope scope) (hg : Gl X x) (hdef : defaultsOf params X.env = ([], []))
    (hbind : ∀ (q : Str) (cl : List (Str × Addr)) (pm cv ctv : Value), bindArgs (PySem.W.kla_fn "<lambda>" q params body scope cl pm cv ctv) ⟨[], []⟩ = pure [])
    (hbody : ∀ (A : Around) (outer : List PySem.Env) (s : Shared) (H : Hp) (E : XK) (f c' : Addr), Room k (A.deeper (lamEnv X scope s.heap.objs.size f c')) → PEm (lamN X A outer s H E scope f c') T E body m)
    (hdb : (x == ("__debug__" : Str)) = false := by decide) (hda : (a == ("__debug__" : Str)) = false := by decide) (hca : (a == ("__classdict__" : Str)) = false := by decide) (hdn : (n == ("__debug__" : Str)) = false := by decide) (hcn : (n == ("__classdict__" : Str)) = false := by decide)
    (hdbad : (bad == ("__debug__" : Str)) = false := by decide) (hdw : (wd == ("__debug__" : Str)) = false := by decide) :
    PEm X T E (.Call (.Name x p) [.Lambda params body scope lpos] [] pos) (mTold ns m) := by
  obtain ⟨P, h1, h2, h3⟩ := LI
  rw [← hq] at h2 h3
  exact e_told TD h1 h2 h3 hcode hr hkw L hg hdef hbind hbody hdb hda hca hdn hcn hdbad hdw
theorem c_neH {k : Nat} (hr : L2H.RoomH k X.A) : Cm X T .NotEq dNe := ⟨op_neD (by have := hr.un; omega), od_ne, nx_ne⟩
theorem hotC {CX : CXT} {P : Program} {w : World} {base : Heap} {N : List Str} {q : Str} {sc : Scope} {f : Addr} {cd : Value} {A : Around} {outer : List PySem.Env} {s : Shared} {p : Addr × Obj} (h : L2H.Hot1 A p) : L2H.HotC (L2H.cxH CX P w K mg base N q sc f cd A outer s H E p).nox := ⟨p, h, List.mem_cons_self⟩

/-! ### what the head's run tells besides -/
def excB (K : PySem.W.Frag) (c : Str) : Bool :=
  decide (PySem.W.findIn K (.ref (He.ga K c)) "__getattribute__" = some (some (.builtin "BaseException.__getattribute__"))) && (decide (PySem.W.findIn K (.ref (He.ga K c)) "__getattr__" = some none) &&
  (decide (PySem.W.subIn K (.ref (He.ga K c)) (.type "BaseException") = some true) && (PySem.W.hasDictIn K (He.ga K c) && (decide (PySem.W.findIn K (.ref (He.ga K c)) "__class__" = some (some (.builtin "object.__class__"))) &&
  (decide (PySem.W.specialIn K (.builtin "object.__class__") "__get__" = some (some (.builtin "getset_descriptor.__get__"))) && (decide (PySem.W.takesIn K (.builtin "object.__class__") = some true) && decide (PySem.W.mroIn K (He.ga K c) (.type "object") = some true)))))))
theorem excB_ok {c : Str} (h : excB K c = true) : ExcC K (He.ga K c) := by
  unfold excB at h
  simp only [Bool.and_eq_true, decide_eq_true_eq] at h
  obtain ⟨h1, h2, h3, h4, h5, h6, h7, h8⟩ := h
  exact ⟨h1, h2, h3, h4, h5, h6, h7, h8⟩
def wordB (K : PySem.W.Frag) (ns : List Str) : Bool := ns.all fun c => excB K c && (decide (PySem.W.kitOne K (.ref (He.ga K c)) (.type "ValueError") = some true) && ns.all fun y => decide (PySem.W.kitOne K (.ref (He.ga K c)) (.ref (He.ga K y)) = some (decide (y = c))))
theorem wordB_ok {ns : List Str} (h : wordB K ns = true) (hg : ∀ c ∈ ns, mg c = some (.ref (He.ga K c))) : ∀ c ∈ ns, ∀ C, mg c = some (.ref C) → WordK K mg ns c C := fun c hc C hC => by
  have e := hg c hc
  rw [hC] at e
  cases e
  have h1 := List.all_eq_true.mp h c hc
  rw [Bool.and_eq_true, Bool.and_eq_true] at h1
  refine ⟨excB_ok h1.1, of_decide_eq_true h1.2.1, fun y hy Cy hCy => ?_⟩
  have e := hg y hy
  rw [hCy] at e
  cases e
  exact of_decide_eq_true (List.all_eq_true.mp h1.2.2 y hy)
def gtupB (K : PySem.W.Frag) (x : Str) (ns : List Int) : Bool := match K.lookup (He.ga K x) with
  | some ⟨.type "tuple", _, .seq its _, _⟩ => decide (its.size ≤ sizeLine) && He.relAll (ns.map V.int) its.toList
  | _ => false
theorem gtupB_ok {x : Str} {ns : List Int} (h : gtupB K x ns = true) (hg : mg x = some (.ref (He.ga K x))) : GTup K mg x ns := by
  refine ⟨He.ga K x, hg, fun M => .inr ?_⟩
  unfold gtupB at h
  split at h
  · rename_i dd its n sl hl
    rw [Bool.and_eq_true] at h
    exact ⟨_, its, n, hl, rfl, rfl, of_decide_eq_true h.1, He.relAll_ok h.2⟩
  · cases h
theorem exc_I {x : Str} (hg : mg x = some (.ref (He.ga K x))) (c : (He.Fa.exc x).ok K = true) : ExI K mg x := by
  obtain ⟨h1, h2, h3, h4⟩ := He.exc_ok c
  exact ⟨_, hg, h1, h2, h3, h4⟩
/-- the law's promise from its meaning -/
theorem law_sp {k : Nat} {m : List D → Out D} {H : Hp} {a : Addr} {ns : List Int} (hT : Tabs T H) (hs : SqL K H a (ns.map V.int)) (h : m [.scr ns] = .ok (.bl true)) : spOf K mg T 1 m [.ref a] H (fun v _ => v = .bl true) fun _ _ _ => False := by
  let M : Hp := fun b => match H b with
    | some (HO.lst xs) => some (HO.lst xs)
    | some (HO.frz o u) => some (HO.frz o u)
    | _ => none
  have h1 : ∀ b o, M b = some o → H b = some o ∧ ((∃ xs, o = .lst xs) ∨ ∃ u v, o = .frz u v) := fun b o e => by
    have e : (match H b with
      | some (HO.lst xs) => some (HO.lst xs)
      | some (HO.frz o u) => some (HO.frz o u)
      | _ => none) = some o := e
    split at e
    · rename_i xs hx
      cases e
      exact ⟨hx, .inl ⟨_, rfl⟩⟩
    · rename_i u v hx
      cases e
      exact ⟨hx, .inr ⟨_, _, rfl⟩⟩
    · cases e
  refine ⟨rfl, hT, M, [.scr ns], fun b o e => (h1 b o e).1, ⟨fun b o e => ?_, PlanOk.emp.monoM fun p C dx fs e => ?_⟩, .cons (.scr ?_) .nil, ?_⟩
  · rcases (h1 b o e).2 with ⟨xs, rfl⟩ | ⟨u, v, rfl⟩ <;> exact True.intro
  · rcases (h1 _ _ e).2 with ⟨xs, z⟩ | ⟨u, v, z⟩ <;> cases z
  · rcases hs with (hs | ⟨o, hs⟩) | hs
    · refine .inl (.inl ?_)
      show (match H a with
        | some (HO.lst xs) => some (HO.lst xs)
        | some (HO.frz o u) => some (HO.frz o u)
        | _ => none) = _
      rw [hs]
    · refine .inl (.inr ⟨o, ?_⟩)
      show (match H a with
        | some (HO.lst xs) => some (HO.lst xs)
        | some (HO.frz o u) => some (HO.frz o u)
        | _ => none) = _
      rw [hs]
    · exact .inr hs
  · rw [h]
    intro v H' M' _ r
    cases r
    rfl
theorem cx_false {P : Program} {w : World} {H : Hp} {s : Shared} {e : Value} {s' : Shared} (h : L2N.CX P w [] H s (fun _ _ _ => False) e s') : False := by
  obtain ⟨_, _, _, _, _, _, _, _, _, _, _, _, z⟩ := h
  exact z
end FL
set_option Elab.async false
set_option linter.all false
set_option maxRecDepth 100000
set_option maxHeartbeats 4000000
/-! tools for the plain laws about the meanings -/
namespace FL
open PySem PySem.Spec PyProof.Rows L2 LamX
theorem sSeq_nx {a b : Env → SO} {Γ Γ' : Env} (h : a Γ = .nx Γ') : sSeq a b Γ = b Γ' := by
  unfold sSeq
  rw [h]
theorem sSeq_rt {a b : Env → SO} {Γ : Env} {d : D} (h : a Γ = .rt d) : sSeq a b Γ = .rt d := by
  unfold sSeq
  rw [h]
theorem sSeq_exc {a b : Env → SO} {Γ : Env} {d : Str} (h : a Γ = .exc d) : sSeq a b Γ = .exc d := by
  unfold sSeq
  rw [h]
theorem sSet_ok {i : Nat} {m : Env → Out D} {Γ : Env} {d : D} (h : m Γ = .ok d) : sSet i m Γ = .nx (Γ.set i (some (.dat d))) := by
  unfold sSet
  rw [h]
  rfl
theorem sRet_ok {m : Env → Out D} {Γ : Env} {d : D} (h : m Γ = .ok d) : sRet m Γ = .rt d := by
  unfold sRet
  rw [h]
  rfl
theorem sIf_ok {c : Env → Out Bool} {a b : Env → SO} {Γ : Env} {x : Bool} (h : c Γ = .ok x) : sIf c a b Γ = if x = true then a Γ else b Γ := by
  unfold sIf
  rw [h]
  rfl
theorem sIf_no {c : Env → Out Bool} {a : Env → SO} {Γ : Env} (h : c Γ = .ok false) : sIf c a sNext Γ = .nx Γ := by
  unfold sIf
  rw [h]
  rfl
theorem sFor_ok {p : Pt} {it : Env → Out (List D)} {b : Env → SO} {Γ : Env} {ds : List D} (h : it Γ = .ok ds) : sFor p it b Γ = forL p b ds Γ := by
  unfold sFor
  rw [h]
  rfl
theorem m2_ok {f : D → D → Out D} {a b : Env → Out D} {Γ : Env} {x y d : D} (ha : a Γ = .ok x) (hb : b Γ = .ok y) (h : f x y = .ok d) : m2 f a b Γ = .ok d := by
  unfold m2
  rw [ha, Out.bind, hb, Out.bind, h]
theorem m1_ok {f : D → Out D} {a : Env → Out D} {Γ : Env} {x d : D} (ha : a Γ = .ok x) (h : f x = .ok d) : m1 f a Γ = .ok d := by
  unfold m1
  rw [ha, Out.bind, h]
theorem mN_ok {f : List D → Out D} {a : Env → Out (List D)} {Γ : Env} {x : List D} {d : D} (ha : a Γ = .ok x) (h : f x = .ok d) : mN f a Γ = .ok d := by
  unfold mN
  rw [ha, Out.bind, h]
theorem mI_ok {f : List D → Out (List D)} {a : Env → Out (List D)} {Γ : Env} {x : List D} {d : List D} (ha : a Γ = .ok x) (h : f x = .ok d) : mI f a Γ = .ok d := by
  unfold mI
  rw [ha, Out.bind, h]
theorem mCons_ok {a : Env → Out D} {b : Env → Out (List D)} {Γ : Env} {x : D} {y : List D} (ha : a Γ = .ok x) (hb : b Γ = .ok y) : mCons a b Γ = .ok (x :: y) := by
  unfold mCons
  rw [ha, Out.bind, hb, Out.bind]
theorem arg_ok {n : Nat} {f : List D → Out D} {ds : List D} {o : Out D} (hn : ds.length = n) (h : f ds = o) : arg n f ds = o := by
  unfold arg
  rw [if_pos hn, h]
theorem a1_ok {a : Env → Out D} {Γ : Env} {x : D} (ha : a Γ = .ok x) : mCons a mNil Γ = .ok [x] := mCons_ok ha rfl
theorem a2_ok {a b : Env → Out D} {Γ : Env} {x y : D} (ha : a Γ = .ok x) (hb : b Γ = .ok y) : mCons a (mCons b mNil) Γ = .ok [x, y] := mCons_ok ha (a1_ok hb)
theorem a4_ok {a b c d : Env → Out D} {Γ : Env} {x y z w : D} (ha : a Γ = .ok x) (hb : b Γ = .ok y) (hc : c Γ = .ok z) (hd : d Γ = .ok w) : mCons a (mCons b (mCons c (mCons d mNil))) Γ = .ok [x, y, z, w] := mCons_ok ha (mCons_ok hb (a2_ok hc hd))
/-- a call of a def of one, of two, of four -/
theorem f1_ok {f : List D → Out D} {a : Env → Out D} {Γ : Env} {x : D} {o : Out D} (ha : a Γ = .ok x) (h : f [x] = o) : mN (arg 1 f) (mCons a mNil) Γ = o := by
  unfold mN
  rw [a1_ok ha]
  exact h
theorem f2_ok {f : List D → Out D} {a b : Env → Out D} {Γ : Env} {x y : D} {o : Out D} (ha : a Γ = .ok x) (hb : b Γ = .ok y) (h : f [x, y] = o) : mN (arg 2 f) (mCons a (mCons b mNil)) Γ = o := by
  unfold mN
  rw [a2_ok ha hb]
  exact h
theorem f4_ok {f : List D → Out D} {a b c d : Env → Out D} {Γ : Env} {x y z w : D} {o : Out D} (ha : a Γ = .ok x) (hb : b Γ = .ok y) (hc : c Γ = .ok z) (hd : d Γ = .ok w) (h : f [x, y, z, w] = o) : mN (arg 4 f) (mCons a (mCons b (mCons c (mCons d mNil)))) Γ = o := by
  unfold mN
  rw [a4_ok ha hb hc hd]
  exact h
/-- a call of a built-in of one, of two -/
theorem b1_ok {f : D → Out D} {a : Env → Out D} {Γ : Env} {x : D} {o : Out D} (ha : a Γ = .ok x) (h : f x = o) : mN (c1 f) (mCons a mNil) Γ = o := by
  unfold mN
  rw [a1_ok ha]
  exact h
theorem b2_ok {f : D → D → Out D} {a b : Env → Out D} {Γ : Env} {x y : D} {o : Out D} (ha : a Γ = .ok x) (hb : b Γ = .ok y) (h : f x y = o) : mN (c2 f) (mCons a (mCons b mNil)) Γ = o := by
  unfold mN
  rw [a2_ok ha hb]
  exact h
theorem sApp_ok {i : Nat} {m : Env → Out D} {Γ : Env} {ds : List D} {d : D} (ho : ownAt Γ i = some ds) (h : m Γ = .ok d) (hl : ds.length < LIM) : sApp i m Γ = .nx (Γ.set i (some (.own (ds ++ [d])))) := by
  unfold sApp
  rw [ho, h]
  exact if_pos hl
theorem sOwn_ok {i : Nat} {ms : Env → Out (List D)} {Γ : Env} {ds : List D} (h : ms Γ = .ok ds) (hl : ds.length ≤ LIM) : sOwn i ms Γ = .nx (Γ.set i (some (.own ds))) := by
  unfold sOwn
  rw [h]
  exact if_pos hl
theorem sExtd_ok {i : Nat} {m : Env → Out D} {Γ : Env} {ds es : List D} (ho : ownAt Γ i = some ds) (h : m Γ = .ok (.lst es)) (hl : ds.length + es.length ≤ LIM) : sExtd i m Γ = .nx (Γ.set i (some (.own (ds ++ es)))) := by
  unfold sExtd
  rw [ho, h]
  exact if_pos hl
theorem defM_rt {n k : Nat} {m : Env → SO} {ds : List D} {d : D} (h : m (ds.map (fun d => some (.dat d)) ++ List.replicate k none) = .rt d) : defM n k m ds = .ok d := by
  unfold defM
  rw [h]
theorem defM_exc {n k : Nat} {m : Env → SO} {ds : List D} {d : Str} (h : m (ds.map (fun d => some (.dat d)) ++ List.replicate k none) = .exc d) : defM n k m ds = .exc d := by
  unfold defM
  rw [h]
theorem sSeq_ex {a b : Env → SO} {Γ : Env} {o : SO} (h : ∃ Γ', a Γ = .nx Γ') (hb : ∀ Γ', b Γ' = o) : sSeq a b Γ = o := by
  obtain ⟨Γ', h⟩ := h
  rw [sSeq_nx h, hb]
/-- a block that goes on to its end, with what is then true of the names -/
def Goes (m : Env → SO) (Γ : Env) (P : Env → Prop) : Prop := ∃ Γ', m Γ = .nx Γ' ∧ P Γ'
theorem Goes.seq {a b : Env → SO} {Γ Γ' : Env} {P : Env → Prop} (h : a Γ = .nx Γ') (k : Goes b Γ' P) : Goes (sSeq a b) Γ P := by
  obtain ⟨Γ2, h2, p⟩ := k
  exact ⟨Γ2, (sSeq_nx h).trans h2, p⟩
theorem Goes.seq' {a b : Env → SO} {Γ : Env} {P Q : Env → Prop} (h : Goes a Γ Q) (k : ∀ Γ', Q Γ' → Goes b Γ' P) : Goes (sSeq a b) Γ P := by
  obtain ⟨Γ', h1, q⟩ := h
  exact .seq h1 (k Γ' q)
theorem Goes.end {m : Env → SO} {Γ Γ' : Env} {P : Env → Prop} (h : m Γ = .nx Γ') (p : P Γ') : Goes m Γ P := ⟨Γ', h, p⟩
theorem Goes.ex {m : Env → SO} {Γ : Env} {P : Env → Prop} (h : Goes m Γ P) : ∃ Γ', m Γ = .nx Γ' := h.imp fun _ q => q.1
theorem Goes.frz {i : Nat} {m : Env → SO} {Γ : Env} {P : Env → Prop} (k : Goes m (frzE Γ i) P) : Goes (sFrz i m) Γ P := k
theorem mTold_ok {ns : List Str} {m : Env → Out D} {Γ : Env} {d : D} (h : m Γ = .ok d) : mTold ns m Γ = .ok d := by
  unfold mTold
  rw [h]
theorem mTold_exc {ns : List Str} {m : Env → Out D} {Γ : Env} {c : Str} (h : m Γ = .exc c) (hc : c ∈ ns) : mTold ns m Γ = .ok (.str c) := by
  unfold mTold
  rw [h]
  exact if_pos hc
theorem mT_ok {a : Env → Out D} {Γ : Env} {b : Bool} (h : a Γ = .ok (.bl b)) : mT a Γ = .ok b := by
  unfold mT
  rw [h]
  rfl
/-- a for whose turns all go on -/
theorem forL_inv {p : Pt} {b : Env → SO} (I : Nat → Env → Prop) : ∀ {ds : List D} {n : Nat} {Γ : Env}, I n Γ → (∀ i d Γ, ds[i]? = some d → I (n + i) Γ → ∃ Γ1 Γ2, bindP p d Γ = some Γ1 ∧ b Γ1 = .nx Γ2 ∧ I (n + i + 1) Γ2) →
    ∃ Γ', forL p b ds Γ = .nx Γ' ∧ I (n + ds.length) Γ'
  | [], n, Γ, h, _ => ⟨Γ, rfl, h⟩
  | d :: ds, n, Γ, h, st => by
    obtain ⟨Γ1, Γ2, h1, h2, h3⟩ := st 0 d Γ rfl h
    obtain ⟨Γ', h4, h5⟩ := forL_inv I (ds := ds) (n := n + 1) (Γ := Γ2) h3 (fun i d' Γ hi hI => by
      have := st (i + 1) d' Γ (by simpa using hi) (by rw [show n + (i + 1) = n + 1 + i by omega]; exact hI)
      rw [show n + (i + 1) + 1 = n + 1 + i + 1 by omega] at this
      exact this)
    refine ⟨Γ', ?_, ?_⟩
    · simp only [forL, h1, h2, h4]
    · rw [List.length_cons, show n + (ds.length + 1) = n + 1 + ds.length by omega]
      exact h5
theorem Goes.for {p : Pt} {it : Env → Out (List D)} {b : Env → SO} {Γ : Env} (I : Nat → Env → Prop) {ds : List D} (hi : it Γ = .ok ds) (h0 : I 0 Γ) (st : ∀ i d Γ, ds[i]? = some d → I i Γ → ∃ Γ1, bindP p d Γ = some Γ1 ∧ Goes b Γ1 (I (i + 1))) : Goes (sFor p it b) Γ (I ds.length) := by
  obtain ⟨Γ', h1, h2⟩ := forL_inv (p := p) (b := b) I (ds := ds) (n := 0) (Γ := Γ) h0 (fun i d Γ hd hI => by
    rw [Nat.zero_add] at hI
    obtain ⟨Γ1, q1, Γ2, q2, q3⟩ := st i d Γ hd hI
    exact ⟨Γ1, Γ2, q1, q2, by rw [Nat.zero_add]; exact q3⟩)
  rw [Nat.zero_add] at h2
  exact ⟨Γ', (sFor_ok hi).trans h1, h2⟩
/-- .. over a range -/
theorem Goes.range {j : Nat} {it : Env → Out (List D)} {b : Env → SO} {Γ : Env} (I : Nat → Env → Prop) {n : Nat} (hi : it Γ = .ok ((List.range n).map fun i => D.int ((i : Nat) : Int))) (h0 : I 0 Γ) (st : ∀ i Γ, i < n → I i Γ → Goes b (Γ.set j (some (.dat (.int ((i : Nat) : Int))))) (I (i + 1))) : Goes (sFor (.nm j) it b) Γ (I n) := by
  have := Goes.for (p := .nm j) (b := b) I hi h0 (fun i d Γ hd hI => by
    have hl : i < n := by
      have := (List.getElem?_eq_some_iff.mp hd).1
      simpa using this
    obtain rfl : D.int ((i : Nat) : Int) = d := by simpa [hl] using hd
    exact ⟨_, rfl, st i Γ hl hI⟩)
  rw [List.length_map, List.length_range] at this
  exact this
theorem compL_map {α : Type} {p : Pt} {c : Env → Out Bool} {elt : Env → Out D} {Γ : Env} (f : α → D) (q : α → Bool) (g : α → D) : ∀ {xs : List α}, (∀ a ∈ xs, ∃ Γ1, bindP p (f a) Γ = some Γ1 ∧ c Γ1 = .ok (q a) ∧ (q a = true → elt Γ1 = .ok (g a))) →
    compL p c elt Γ (xs.map f) = .ok ((xs.filter q).map g)
  | [], _ => rfl
  | a :: xs, h => by
    obtain ⟨Γ1, h1, h2, h3⟩ := h a List.mem_cons_self
    have ih := compL_map f q g (xs := xs) fun a ha => h a (List.mem_cons_of_mem _ ha)
    simp only [List.map_cons, compL, h1, h2]
    cases hq : q a with
    | true =>
      simp only [h3 hq, ih, List.filter_cons, hq, if_true, List.map_cons]
    | false =>
      simp only [ih, List.filter_cons, hq, Bool.false_eq_true, if_false]
theorem mComp_ok {α : Type} {vs : List Nat} {p : Pt} {it : Env → Out (List D)} {c : Env → Out Bool} {elt : Env → Out D} {Γ : Env} {xs : List α} (f : α → D) (q : α → Bool) (g : α → D) (hi : it Γ = .ok (xs.map f))
    (h : ∀ a ∈ xs, ∃ Γ1, bindP p (f a) (wipeE Γ vs) = some Γ1 ∧ c Γ1 = .ok (q a) ∧ (q a = true → elt Γ1 = .ok (g a))) (hl : xs.length ≤ LIM) : mComp vs p it c elt Γ = .ok (.lst ((xs.filter q).map g)) := by
  unfold mComp
  rw [hi, Out.bind, compL_map f q g h]
  show dLst _ = _
  unfold dLst
  rw [if_pos]
  rw [List.length_map]
  exact Nat.le_trans (List.length_filter_le _ _) hl
theorem filter_yes {α : Type} (xs : List α) : xs.filter (fun _ => true) = xs := List.filter_eq_self.mpr fun _ _ => rfl
/-- .. without a test -/
theorem mComp_all {α : Type} {vs : List Nat} {p : Pt} {it : Env → Out (List D)} {elt : Env → Out D} {Γ : Env} {xs : List α} (f : α → D) (g : α → D) (hi : it Γ = .ok (xs.map f))
    (h : ∀ a ∈ xs, ∃ Γ1, bindP p (f a) (wipeE Γ vs) = some Γ1 ∧ elt Γ1 = .ok (g a)) (hl : xs.length ≤ LIM) : mComp vs p it tYesM elt Γ = .ok (.lst (xs.map g)) := by
  have := mComp_ok (c := tYesM) (elt := elt) f (fun _ => true) g hi (fun a ha => by
    obtain ⟨Γ1, h1, h2⟩ := h a ha
    exact ⟨Γ1, h1, rfl, fun _ => h2⟩) hl
  rw [filter_yes] at this
  exact this
theorem intsD_zero (n : Nat) : intsD 0 n = (List.range n).map fun i => D.int ((i : Nat) : Int) := by
  unfold intsD
  congr 1
  funext i
  rw [Int.zero_add]
theorem rng1_nat {n : Nat} (h : n < 4611686018427387904) : rng1 [.int (n : Nat)] = .ok ((List.range n).map fun i => D.int ((i : Nat) : Int)) := by
  show (if -RLIM ≤ ((n : Nat) : Int) ∧ ((n : Nat) : Int) < RLIM then Out.ok (intsD 0 ((n : Nat) : Int).toNat) else .bad) = _
  unfold RLIM
  rw [if_pos (by omega), intsD_zero, Int.toNat_natCast]
theorem ixN_nat {n j : Nat} (h : j < n) : ixN n (j : Int) = some j := by
  unfold ixN
  rw [if_pos (by omega), if_pos (by omega), Int.toNat_natCast]
theorem dIx_ints {row : List Int} {j : Nat} (h : j < row.length) : dIx (.lst (row.map D.int)) (.int (j : Nat)) = .ok (.int (row.getD j 0)) := by
  show (match atI (row.map D.int) ((j : Nat) : Int) with | some d => Out.ok d | none => .bad) = _
  unfold atI
  rw [List.length_map, ixN_nat h]
  simp [h, List.getD]
theorem dIx_scr {row : List Int} {j : Nat} (h : j < row.length) : dIx (.scr row) (.int (j : Nat)) = .ok (.int (row.getD j 0)) := by
  show (match atI row ((j : Nat) : Int) with | some d => Out.ok (D.int d) | none => .bad) = _
  unfold atI
  rw [ixN_nat h]
  simp [h, List.getD]
theorem dIx_tup0 {a : D} {xs : List D} : dIx (.tup (a :: xs)) (.int 0) = .ok a := by
  show (match atI (a :: xs) (((0 : Nat) : Nat) : Int) with | some d => Out.ok d | none => .bad) = _
  unfold atI
  rw [ixN_nat (by simp)]
  rfl
theorem dIx_tup1 {a b : D} {xs : List D} : dIx (.tup (a :: b :: xs)) (.int 1) = .ok b := by
  show (match atI (a :: b :: xs) (((1 : Nat) : Nat) : Int) with | some d => Out.ok d | none => .bad) = _
  unfold atI
  rw [ixN_nat (by simp)]
  rfl
/-- an item of a display, at a place that is told -/
theorem dIx_lst {xs : List D} {i : Int} {j : Nat} {d : D} (hi : i = (j : Nat)) (h : xs[j]? = some d) : dIx (.lst xs) (.int i) = .ok d := by
  subst hi
  show (match atI xs ((j : Nat) : Int) with | some d => Out.ok d | none => .bad) = _
  rw [atI_nat h]
theorem dIx_mem {xs : List D} {r : Int} (h0 : 0 ≤ r) (h : r < xs.length) : ∃ d, d ∈ xs ∧ dIx (.lst xs) (.int r) = .ok d := by
  have hr : r.toNat < xs.length := by omega
  refine ⟨xs[r.toNat], List.getElem_mem _, ?_⟩
  exact dIx_lst (j := r.toNat) (by omega) (List.getElem?_eq_getElem hr)
theorem enum_ints (row : List Int) : enumI [.lst (row.map D.int)] = .ok ((List.range row.length).map fun i => D.tup [.int ((i : Nat) : Int), .int (row.getD i 0)]) := by
  show Out.ok _ = Out.ok _
  congr 1
  apply List.ext_getElem?
  intro i
  simp only [List.getElem?_mapIdx, List.getElem?_map]
  by_cases h : i < row.length
  · simp [h, List.getD]
  · simp [h]
theorem py_ints : ∀ row : List Int, D.pyL (row.map D.int) = row.map PyData.int
  | [] => rfl
  | x :: xs => by simp [D.pyL, D.py, py_ints xs]
theorem eqvAll_refl_ints : ∀ row : List Int, PyData.eqvAll (row.map PyData.int) (row.map PyData.int) = true
  | [] => by simp [PyData.eqvAll]
  | x :: xs => by simp [PyData.eqvAll, PyData.eqv, eqvAll_refl_ints xs]
theorem eqvAll_ints : ∀ {row row' : List Int}, PyData.eqvAll (row.map PyData.int) (row'.map PyData.int) = decide (row = row')
  | [], [] => by simp [PyData.eqvAll]
  | [], y :: ys => by simp [PyData.eqvAll]
  | x :: xs, [] => by simp [PyData.eqvAll]
  | x :: xs, y :: ys => by
    simp only [List.map_cons, PyData.eqvAll, PyData.eqv, eqvAll_ints (row := xs) (row' := ys), List.cons.injEq, Bool.decide_and]
    rw [← Bool.beq_eq_decide_eq] <;> rfl
theorem eqv_lst_ints (a b : List Int) : eqv (.lst (a.map D.int)) (.lst (b.map D.int)) = decide (a = b) := by
  unfold eqv
  simp only [D.py, py_ints, PyData.eqv, eqvAll_ints]
theorem eqv_tup_ints (a b : List Int) : eqv (.tup (a.map D.int)) (.tup (b.map D.int)) = decide (a = b) := by
  unfold eqv
  simp only [D.py, py_ints, PyData.eqv, eqvAll_ints]
theorem eqv_int (a b : Int) : eqv (.int a) (.int b) = decide (a = b) := by
  unfold eqv
  simp only [D.py, PyData.eqv]
  rfl
theorem eqv_scr_nil (ns : List Int) : eqv (.scr ns) (.lst []) = decide (ns = []) := by
  unfold eqv
  cases ns <;> simp [D.py, D.pyL, PyData.eqv, PyData.eqvAll]
theorem gd_ints (n : Nat) (row : List Int) : gd (n + 1) (.lst (row.map D.int)) = true := by
  unfold gd
  rw [List.all_eq_true]
  intro x hx
  obtain ⟨i, _, rfl⟩ := List.mem_map.mp hx
  cases n <;> rfl
theorem gd_tup (n : Nat) (row : List Int) : gd (n + 1) (.tup (row.map D.int)) = true := by
  unfold gd
  rw [List.all_eq_true]
  intro x hx
  obtain ⟨i, _, rfl⟩ := List.mem_map.mp hx
  cases n <;> rfl
theorem dEq_int (a b : Int) : dEq (.int a) (.int b) = .ok (.bl (decide (a = b))) := by
  unfold dEq
  rw [if_pos (by rfl), eqv_int]
theorem dNe_int (a b : Int) : dNe (.int a) (.int b) = .ok (.bl (!decide (a = b))) := by
  unfold dNe
  rw [if_pos (by rfl), eqv_int]
theorem dEq_bl (a b : Bool) : dEq (.bl a) (.bl b) = .ok (.bl (a == b)) := rfl
theorem dNe_bl (a b : Bool) : dNe (.bl a) (.bl b) = .ok (.bl (!(a == b))) := rfl
theorem dEq_ints (a b : List Int) : dEq (.lst (a.map D.int)) (.lst (b.map D.int)) = .ok (.bl (decide (a = b))) := by
  unfold dEq
  rw [if_pos (by rw [gd_ints, gd_ints]; rfl), eqv_lst_ints]
theorem dNe_ints (a b : List Int) : dNe (.lst (a.map D.int)) (.lst (b.map D.int)) = .ok (.bl (!decide (a = b))) := by
  unfold dNe
  rw [if_pos (by rw [gd_ints, gd_ints]; rfl), eqv_lst_ints]
theorem dEq_tints (a b : List Int) : dEq (.tup (a.map D.int)) (.tup (b.map D.int)) = .ok (.bl (decide (a = b))) := by
  unfold dEq
  rw [if_pos (by rw [gd_tup, gd_tup]; rfl), eqv_tup_ints]
theorem dNe_tints (a b : List Int) : dNe (.tup (a.map D.int)) (.tup (b.map D.int)) = .ok (.bl (!decide (a = b))) := by
  unfold dNe
  rw [if_pos (by rw [gd_tup, gd_tup]; rfl), eqv_tup_ints]
theorem dEq_pair (a b c d : Int) : dEq (.tup [.int a, .int b]) (.tup [.int c, .int d]) = .ok (.bl (decide (a = c ∧ b = d))) := by
  have := dEq_tints [a, b] [c, d]
  simp only [List.map_cons, List.map_nil, List.cons.injEq, and_true] at this
  exact this
theorem dNe_pair (a b c d : Int) : dNe (.tup [.int a, .int b]) (.tup [.int c, .int d]) = .ok (.bl (!decide (a = c ∧ b = d))) := by
  have := dNe_tints [a, b] [c, d]
  simp only [List.map_cons, List.map_nil, List.cons.injEq, and_true] at this
  exact this
theorem str_beq (x : Str) : (x == x) = true := by
  first | exact beq_self_eq_true x | simp
theorem eqvL_refl (n : Nat) (ih : ∀ d, gd n d = true → PyData.eqv d.py d.py = true) : ∀ xs : List D, xs.all (gd n) = true → PyData.eqvAll (D.pyL xs) (D.pyL xs) = true
  | [], _ => by simp [D.pyL, PyData.eqvAll]
  | x :: xs, h => by
    rw [List.all_cons, Bool.and_eq_true] at h
    simp only [D.pyL, PyData.eqvAll, ih x h.1, eqvL_refl n ih xs h.2, Bool.and_self]
theorem eqvP_refl : ∀ (n : Nat) (d : D), gd n d = true → PyData.eqv d.py d.py = true
  | n, .non, _ => by simp [D.py, PyData.eqv]
  | n, .bl b, _ => by simp [D.py, PyData.eqv]
  | n, .int i, _ => by simp [D.py, PyData.eqv]
  | n, .str x, _ => by
    simp only [D.py, PyData.eqv]
    exact str_beq x
  | n + 1, .lst xs, h => by
    simp only [D.py, PyData.eqv]
    exact eqvL_refl n (eqvP_refl n) xs h
  | n + 1, .tup xs, h => by
    simp only [D.py, PyData.eqv]
    exact eqvL_refl n (eqvP_refl n) xs h
  | n + 1, .scr ns, _ => by
    simp only [D.py, PyData.eqv]
    exact eqvAll_refl_ints ns
  | 0, .lst xs, h => by simp [gd] at h
  | 0, .tup xs, h => by simp [gd] at h
  | 0, .scr xs, h => by simp [gd] at h
  | 0, .fn x, h => by simp [gd] at h
  | n + 1, .fn x, h => by simp [gd] at h
  | 0, .ty x, h => by simp [gd] at h
  | n + 1, .ty x, h => by simp [gd] at h
  | 0, .pln _ _ _, h => by simp [gd] at h
  | n + 1, .pln _ _ _, h => by simp [gd] at h
  | 0, .row _, h => by simp [gd] at h
  | n + 1, .row _, h => by simp [gd] at h
  | 0, .dmp _, h => by simp [gd] at h
  | n + 1, .dmp _, h => by simp [gd] at h
  | 0, .imp _, h => by simp [gd] at h
  | n + 1, .imp _, h => by simp [gd] at h
  | 0, .wds _, h => by simp [gd] at h
  | n + 1, .wds _, h => by simp [gd] at h
  | 0, .opq x, h => by simp [gd] at h
  | n + 1, .opq x, h => by simp [gd] at h
theorem dNe_self {d : D} (h : gd 8 d = true) : dNe d d = .ok (.bl false) := by
  unfold dNe
  rw [h, Bool.and_self, if_pos rfl]
  unfold eqv
  rw [eqvP_refl 8 d h]
  rfl
theorem dEq_self {d : D} (h : gd 8 d = true) : dEq d d = .ok (.bl true) := by
  unfold dEq
  rw [h, Bool.and_self, if_pos rfl]
  unfold eqv
  rw [eqvP_refl 8 d h]
theorem dMod_ok {i j : Int} (h : 0 < j) : dMod (.int i) (.int j) = .ok (.int (i % j)) := by
  show (if decide (0 < j) = true then Out.ok (D.int (i % j)) else .bad) = _
  rw [if_pos (decide_eq_true h)]
theorem small_of {i : Int} (h : i.natAbs < 2 ^ 4096) : small i = true := decide_eq_true h
theorem small_lt {i : Int} (h0 : -(2 ^ 4000 : Int) < i) (h : i < 2 ^ 4000) : small i = true := by
  apply small_of
  have e : (2 : Int) ^ 4000 = ((2 ^ 4000 : Nat) : Int) := by norm_cast
  have l : (2 : Nat) ^ 4000 ≤ 2 ^ 4096 := Nat.pow_le_pow_right (by decide) (by decide)
  rw [e] at h0 h
  generalize (2 : Nat) ^ 4000 = p at *
  generalize (2 : Nat) ^ 4096 = q at *
  omega
theorem small_64 {i : Int} (h0 : -(2 ^ 64 : Int) < i) (h : i < 2 ^ 64) : small i = true := by
  apply small_lt
  · refine Int.lt_of_le_of_lt ?_ h0
    apply Int.neg_le_neg
    exact_mod_cast (Nat.pow_le_pow_right (by decide) (by decide) : (2 : Nat) ^ 64 ≤ 2 ^ 4000)
  · refine Int.lt_of_lt_of_le h ?_
    exact_mod_cast (Nat.pow_le_pow_right (by decide) (by decide) : (2 : Nat) ^ 64 ≤ 2 ^ 4000)
theorem dDiv_ok {i j : Int} (h : 0 < j) (hs : small j = true) : dDiv (.int i) (.int j) = .ok (.int (i / j)) := by
  show (if (decide (0 < j) && small j) = true then Out.ok (D.int (i / j)) else .bad) = _
  rw [if_pos (by rw [decide_eq_true h, hs]; rfl)]
theorem dDiv_64 {i j : Int} (h : 0 < j) (hs : j < 18446744073709551616) : dDiv (.int i) (.int j) = .ok (.int (i / j)) := dDiv_ok h (small_64 (by omega) (by omega))
theorem dMul_l {i j : Int} (h : i.natAbs < 2 ^ 64) : dMul (.int i) (.int j) = .ok (.int (i * j)) := by
  show (if mulOk i j = true then Out.ok (D.int (i * j)) else .bad) = _
  rw [if_pos (by unfold mulOk; rw [decide_eq_true h]; rfl)]
theorem dMul_r {i j : Int} (h : j.natAbs < 2 ^ 64) : dMul (.int i) (.int j) = .ok (.int (i * j)) := by
  show (if mulOk i j = true then Out.ok (D.int (i * j)) else .bad) = _
  rw [if_pos (by unfold mulOk; rw [decide_eq_true h, Bool.or_true]; rfl)]
theorem dMul_s {i j : Int} (h1 : small i = true) (h2 : small j = true) : dMul (.int i) (.int j) = .ok (.int (i * j)) := by
  show (if mulOk i j = true then Out.ok (D.int (i * j)) else .bad) = _
  rw [if_pos (by unfold mulOk; rw [h1, h2, Bool.and_true, Bool.or_true])]
theorem dAdd_int (i j : Int) : dAdd (.int i) (.int j) = .ok (.int (i + j)) := rfl
theorem dSub_int (i j : Int) : dSub (.int i) (.int j) = .ok (.int (i - j)) := rfl
theorem dLt_int (i j : Int) : dLt (.int i) (.int j) = .ok (.bl (decide (i < j))) := rfl
theorem dLe_int (i j : Int) : dLe (.int i) (.int j) = .ok (.bl (decide (i ≤ j))) := rfl
theorem dGt_int (i j : Int) : dGt (.int i) (.int j) = .ok (.bl (decide (j < i))) := rfl
theorem dGe_int (i j : Int) : dGe (.int i) (.int j) = .ok (.bl (decide (j ≤ i))) := rfl
theorem dLen_lst (xs : List D) : dLen (.lst xs) = .ok (.int (xs.length : Nat)) := rfl
theorem dLen_scr (xs : List Int) : dLen (.scr xs) = .ok (.int (xs.length : Nat)) := rfl
theorem dLt_pair (a b c d : Int) : dLt (.tup [.int a, .int b]) (.tup [.int c, .int d]) = .ok (.bl (decide (a < c ∨ a = c ∧ b < d))) := by
  show Out.ok (D.bl (HT.lexLt [a, b] [c, d])) = _
  rw [HT.lexLt_cons, HT.lexLt_cons, HT.lexLt_nil_nil]
  congr 2
  by_cases h : a = c
  · subst h
    rw [if_pos rfl]
    by_cases h2 : b = d
    · subst h2
      rw [if_pos rfl]
      symm
      exact decide_eq_false (by omega)
    · rw [if_neg h2]
      congr 1
      apply propext
      omega
  · rw [if_neg h]
    congr 1
    apply propext
    omega
theorem cut_from (xs : List D) (k : Nat) : cutD xs (some (k : Int)) none = xs.drop k := by
  unfold cutD
  rw [HT.sIx_nat, HT.sIx_none]
  by_cases h : k ≤ xs.length
  · rw [Nat.min_eq_left h, List.take_of_length_le (by simp)]
  · rw [Nat.min_eq_right (by omega), List.drop_of_length_le (by omega), List.drop_of_length_le (by omega)]
    simp
theorem cut_to (xs : List D) (k : Nat) : cutD xs none (some (k : Int)) = xs.take k := by
  unfold cutD
  rw [HT.sIx_nat, HT.sIx_none]
  simp
end FL
set_option Elab.async false
set_option linter.all false
set_option maxRecDepth 100000
set_option maxHeartbeats 4000000
/-! more rules: list(range(n)), sorted(ints), xs[-2::-1] -/
namespace FL
open PySem PySem.Spec PyProof.Rows L2 LamX
variable {X : Cx} {K : PySem.W.Frag} {mg : Str → Option Value} {T : Tb} {E : XK} {M H : Hp}
def dLRng : D → Out D
  | .int n => if 0 ≤ n ∧ n ≤ (LIM : Nat) then .ok (.lst (intsD 0 n.toNat)) else .bad
  | _ => .bad
theorem rpL_rng (n : Nat) : RpL K mg M ((List.range n).map fun i => V.int (0 + (i : Nat))) (intsD 0 n) := by
  unfold intsD
  generalize List.range n = l
  induction l with
  | nil => exact .nil
  | cons a l ih => exact .cons (.int _) ih
theorem e_listRg {a : Expr} {m : Env → Out D} {p1 p2 q1 q2 : Pos} (hc : X.calm = true) (hl : X.mg "list" = none) (hr : X.mg "range" = none) (hgl : Gl X "list") (hgr : Gl X "range") (h : PEm X T E a m)
    (na : starEach [a] X.env = (false, eval a X.env) :: starEach [] X.env := by rfl)
    (na2 : starEach [.Call (.Name "range" p1) [a] [] q1] X.env = (false, eval (.Call (.Name "range" p1) [a] [] q1) X.env) :: starEach [] X.env := by rfl) :
    PEm X T E (.Call (.Name "list" p2) [.Call (.Name "range" p1) [a] [] q1] [] q2) (m1 dLRng m) :=
  weakE (pe_listRg hc hgl hl (prg_1 hgr hr h na) na2) fun σ H Q h => by
    obtain ⟨Γ, M, H0, r, f⟩ := h
    refine ⟨Γ, M, H0, r, Fin.bind f fun d v H1 M1 _ e1 r1 f1 => ?_⟩
    have rs := r.ext e1
    cases r1 with
    | int n =>
      have f1 : Fin X.K X.mg T M1 H1 Q E (if 0 ≤ n ∧ n ≤ (LIM : Nat) then .ok (.lst (intsD 0 n.toNat)) else .bad) := f1
      by_cases hn : 0 ≤ n ∧ n ≤ (LIM : Nat)
      · rw [if_pos hn] at f1
        unfold LIM at hn
        refine ⟨n, rfl, RgOk.of_le (by omega) (by omega) (by omega) (by omega), fun q hq => ?_⟩
        have rl : RpL X.K X.mg M1 (rgV 0 n) (intsD 0 n.toNat) := by
          unfold rgV
          rw [Int.sub_zero]
          exact rpL_rng _
        obtain ⟨M', e, rr⟩ := newLst (T := T) hq rs.ms rs.nt rl
        exact f1 _ _ _ e rr
      · rw [if_neg hn] at f1
        exact f1.elim
    | _ => exact f1.elim
/-! sorted -/
def srt (ns : List Int) : List Int := ns.mergeSort (fun a b => decide (a ≤ b))
theorem srt_perm (ns : List Int) : (srt ns).Perm ns := List.mergeSort_perm _ _
theorem srt_sorted (ns : List Int) : (srt ns).Pairwise (· ≤ ·) := by
  have := List.pairwise_mergeSort (le := fun a b : Int => decide (a ≤ b)) (by intro a b c; simp; omega) (by intro a b; simp; omega) ns
  exact this.imp fun h => of_decide_eq_true h
theorem srt_eq {ns ms : List Int} (hp : ms.Perm ns) (hs : ms.Pairwise (· ≤ ·)) : ms = srt ns :=
  List.Perm.eq_of_pairwise (fun a b _ _ h1 h2 => by omega) hs (srt_sorted ns) (hp.trans (srt_perm ns).symm)
def dSorted : D → Out D := onInts fun ns => .ok (.lst ((srt ns).map D.int))
theorem cd_sorted : CallD K mg T (rSortedI K) (c1 dSorted) := cd_ints fun a ns M H Q d s nt ha hf q => by
  cases hf
  refine ⟨a, ns, rfl, SqL.of (s _ _ ha), fun ns' p h1 h2 hp => ?_⟩
  rw [srt_eq h1 h2]
  obtain ⟨M', e, rr⟩ := newLst (K := K) (mg := mg) (T := T) hp s nt (rpL_ints (srt ns))
  exact q _ _ _ e rr
theorem nx_sorted : noX1 dSorted := nx_onInts fun _ _ h => by cases h
theorem b_sorted (hm : X.mg "sorted" = none) : Bt X T "sorted" (c1 dSorted) := .fn cr_sortedI cd_sorted (nx_c1 nx_sorted) hm (by decide +kernel) (by decide) (by decide)
/-! xs[-2::-1] -/
theorem bounds2 (n : Nat) : sliceBounds (some (-2)) none (some (-1)) n = (((n - 1 : Nat) : Int) - 1, -1, -1) := by
  unfold sliceBounds
  simp only [Option.getD_some]
  have e : (max (-1) (min (-2 + (n : Int)) ((n : Int) - 1))) = ((n - 1 : Nat) : Int) - 1 := by omega
  simp [e]
  first | done | omega
theorem fmap_congr {α β : Type} {f g : α → Option β} : ∀ {l : List α}, (∀ x ∈ l, f x = g x) → l.filterMap f = l.filterMap g
  | [], _ => rfl
  | a :: l, h => by
    rw [List.filterMap_cons, List.filterMap_cons, h a List.mem_cons_self, fmap_congr fun x hx => h x (List.mem_cons_of_mem _ hx)]
theorem pick2 (items : Array Value) : slicePick items (some (-2)) none (some (-1)) = items.toList.dropLast.reverse.toArray := by
  unfold slicePick
  rw [bounds2]
  show ((sliceRange (((items.size - 1 : Nat) : Int) - 1) (-1) (-1)).filterMap (items[·]?)).toArray = _
  rw [PySem.W.krv_sliceRange, PySem.W.krv_range, List.filterMap_reverse]
  congr 2
  have h := PySem.W.krv_all items
  obtain ⟨xs⟩ := items
  simp only [List.size_toArray] at h ⊢
  by_cases h0 : xs = []
  · subst h0
    rfl
  · obtain ⟨ys, y, rfl⟩ : ∃ ys y, xs = ys ++ [y] := ⟨xs.dropLast, xs.getLast h0, (List.dropLast_concat_getLast h0).symm⟩
    have e : (ys ++ [y]).length - 1 = ys.length := by simp
    rw [e, List.dropLast_concat]
    have h2 := PySem.W.krv_all ys.toArray
    simp only [List.size_toArray] at h2
    refine Eq.trans ?_ h2
    refine fmap_congr fun i hi => ?_
    have := List.mem_range.mp hi
    simp [this, List.getElem?_append_left]
def tRev2 (K : PySem.W.Frag) (te : TE) : TE := fun σ H Q => te σ H fun x H1 => ∃ a xs, x = .ref a ∧ SqL K H1 a xs ∧ ∀ p, H1 p = none → Q (.ref p) (upd H1 p (.lst xs.dropLast.reverse))
theorem pe_rev2 {e : Expr} {te : TE} {k k2 : Nat} {p1 p2 p3 p4 p5 pos : Pos} (he : PE X e te) : PE X (.Subscript e (.Slice (some (.UnaryOp .USub (.Constant (.int 2) k2 p4) p5)) none (some (.UnaryOp .USub (.Constant (.int 1) k p1) p2)) p3) pos) (tRev2 X.K te) := by
  refine ⟨fun pins s σ H Q I h => ?_⟩
  refine Subscript_ (thn (he.run pins s σ H _ I h) fun v s1 ⟨x, H1, I1, r1, q1⟩ => ?_)
  obtain ⟨a, xs, ex, hx, q⟩ := q1
  subst ex
  cases r1
  have hst : PO X (some (.UnaryOp .USub (.Constant (.int 1) k p1) p2)) (tPart (tUn (rU fun i => .int (-i)) (tC (.int 1)))) := po_some (pe_un un_neg pe_int)
  have hlo : PO X (some (.UnaryOp .USub (.Constant (.int 2) k2 p4) p5)) (tPart (tUn (rU fun i => .int (-i)) (tC (.int 2)))) := po_some (pe_un un_neg pe_int)
  refine wpAny_Slice (thn (hlo.run pins s1 σ H1 (fun o H2 => o = some (-2) ∧ H2 = H1) I1 ⟨2, rfl, -2, rfl, rfl, rfl⟩) fun vl s2 ⟨l, H2, I2, pl, el, e2⟩ => ?_)
  subst el e2
  refine thn (po_none.run pins s2 σ H2 (fun o H3 => o = none ∧ H3 = H2) I2 ⟨rfl, rfl⟩) fun vu s3 ⟨u, H3, I3, pu, eu, e3⟩ => ?_
  subst eu e3
  refine thn (hst.run pins s3 σ H3 (fun o H4 => o = some (-1) ∧ H4 = H3) I3 ⟨1, rfl, -1, rfl, rfl, rfl⟩) fun vs s4 ⟨o, H4, I4, ps, eo, e4⟩ => ?_
  subst eo e4
  have I5 : Inv X pins σ H4 { s4 with heap := s4.heap.push { cls := .type "slice", data := .fields #[vl, vu, vs] } } := I4.kept (t' := s4.toks) fun b ob q => Heap.get?_push_of_some _ q
  obtain ⟨its, r, ht, hz⟩ := I5.list hx
  have hlen := r.length
  show wpAny (model X.prog X.w) X.A (subscriptTail e (.Slice (some (.UnaryOp .USub (.Constant (.int 2) k2 p4) p5)) none (some (.UnaryOp .USub (.Constant (.int 1) k p1) p2)) p3) (.ref a) (.ref s4.heap.objs.size)) (EP X pins σ Q) X.xe { s4 with heap := s4.heap.push { cls := .type "slice", data := .fields #[vl, vu, vs] } }
  refine tail_any (ops := [.ref a, .ref s4.heap.objs.size]) ht.isList.typeIs (PySem.slot_list_getitem.lookup) ?_ (by with_unfolding_all rfl)
  refine wpAny_getItem_list_slice ht.isList (Heap.IsSliceOf.new _ vl vu vs) pl pu ps (by decide) ?_ (by rw [List.size_toArray]; omega)
  rw [pick2]
  refine ⟨.ref _, _, I5.laid (t' := s4.toks) (o := .lst xs.dropLast.reverse) (fun b ob q => Heap.get?_push_of_some _ q) (Nat.le_refl _) ?_, rfl, q _ (I5.hok.fresh (Nat.le_refl _))⟩
  refine ⟨by rw [List.length_reverse, List.length_dropLast]; omega, _, 0, Vals.reverse ?_, Heap.get?_push_size _ rfl⟩
  rw [List.dropLast_eq_take, List.dropLast_eq_take, hlen]
  exact r.take _
def dRev2 : D → Out D
  | .lst xs => .ok (.lst xs.dropLast.reverse)
  | _ => .bad
theorem RpL.dropLast' : ∀ {vs : List V} {ds : List D}, RpL K mg M vs ds → RpL K mg M vs.dropLast ds.dropLast
  | _, _, .nil => .nil
  | _, _, .cons h .nil => .nil
  | _, _, .cons h (.cons h2 t) => .cons h (RpL.dropLast' (.cons h2 t))
theorem e_rev2 {e : Expr} {m : Env → Out D} {k k2 : Nat} {p1 p2 p3 p4 p5 pos : Pos} (h : PEm X T E e m) : PEm X T E (.Subscript e (.Slice (some (.UnaryOp .USub (.Constant (.int 2) k2 p4) p5)) none (some (.UnaryOp .USub (.Constant (.int 1) k p1) p2)) p3) pos) (m1 dRev2 m) :=
  weakE (pe_rev2 h) fun σ H Q h => by
    obtain ⟨Γ, M, H0, r, f⟩ := h
    refine ⟨Γ, M, H0, r, Fin.bind f fun d v H1 M1 _ e1 r1 f1 => ?_⟩
    have rs := r.ext e1
    cases r1 with
    | lst ha ra =>
      refine ⟨_, _, rfl, SqL.of (rs.ms _ _ ha), fun p hp => ?_⟩
      obtain ⟨M', e, rr⟩ := newLst (T := T) hp rs.ms rs.nt ra.dropLast'.reverse
      exact f1 _ _ _ e rr
    | _ => exact f1.elim
end FL
set_option Elab.async false
set_option linter.all false
set_option maxRecDepth 100000
set_option maxHeartbeats 4000000
/-! more tools for the plain laws -/
namespace FL
open PySem PySem.Spec PyProof.Rows L2 LamX
/-- a for that may leave with a told answer -/
theorem forL_all {p : Pt} {b : Env → SO} {v : D} (I : Nat → Env → Prop) (q : D → Bool) : ∀ {ds : List D} {n : Nat} {Γ : Env}, I n Γ → (∀ i d Γ, ds[i]? = some d → I (n + i) Γ → ∃ Γ1, bindP p d Γ = some Γ1 ∧ ((q d = true ∧ ∃ Γ2, b Γ1 = .nx Γ2 ∧ I (n + i + 1) Γ2) ∨ (q d = false ∧ b Γ1 = .rt v))) →
    (ds.all q = true ∧ ∃ Γ', forL p b ds Γ = .nx Γ' ∧ I (n + ds.length) Γ') ∨ (ds.all q = false ∧ forL p b ds Γ = .rt v)
  | [], n, Γ, h, _ => .inl ⟨rfl, Γ, rfl, h⟩
  | d :: ds, n, Γ, h, st => by
    obtain ⟨Γ1, h1, h2⟩ := st 0 d Γ rfl h
    rcases h2 with ⟨hq, Γ2, h2, h3⟩ | ⟨hq, h2⟩
    · have ih := forL_all I q (ds := ds) (n := n + 1) (Γ := Γ2) h3 (fun i d' Γ hi hI => by
        have := st (i + 1) d' Γ (by simpa using hi) (by rw [show n + (i + 1) = n + 1 + i by omega]; exact hI)
        rw [show n + (i + 1) + 1 = n + 1 + i + 1 by omega] at this
        exact this)
      rcases ih with ⟨e1, Γ', e2, e3⟩ | ⟨e1, e2⟩
      · refine .inl ⟨by rw [List.all_cons, hq, e1]; rfl, Γ', ?_, ?_⟩
        · simp only [forL, h1, h2, e2]
        · rw [List.length_cons, show n + (ds.length + 1) = n + 1 + ds.length by omega]
          exact e3
      · refine .inr ⟨by rw [List.all_cons, hq, e1]; rfl, ?_⟩
        simp only [forL, h1, h2, e2]
    · refine .inr ⟨by rw [List.all_cons, hq]; rfl, ?_⟩
      simp only [forL, h1, h2]
theorem dAll_map {α : Type} (xs : List α) (q : α → Bool) : dAll (.lst (xs.map fun x => D.bl (q x))) = .ok (.bl (xs.all q)) := by
  rw [show (xs.map fun x => D.bl (q x)) = (xs.map q).map D.bl by rw [List.map_map]; rfl]
  unfold dAll
  rw [onBools_map]
  congr 2
  rw [List.all_map]
  rfl
theorem dAny_map {α : Type} (xs : List α) (q : α → Bool) : dAny (.lst (xs.map fun x => D.bl (q x))) = .ok (.bl (xs.any q)) := by
  rw [show (xs.map fun x => D.bl (q x)) = (xs.map q).map D.bl by rw [List.map_map]; rfl]
  unfold dAny
  rw [onBools_map]
  congr 2
  rw [List.any_map]
  rfl
/-- neighbours -/
def consec (r : Int → Int → Bool) (xs : List Int) : Bool := (xs.zip (xs.drop 1)).all fun p => r p.1 p.2
theorem zipL_ints : ∀ xs ys : List Int, zipL (xs.map D.int) (ys.map D.int) = (xs.zip ys).map fun p => D.tup [.int p.1, .int p.2]
  | [], ys => by simp [zipL]
  | x :: xs, [] => by simp [zipL]
  | x :: xs, y :: ys => by simp [zipL, zipL_ints xs ys]
theorem all_zip {i a b : Nat} {elt : Env → Out D} {Γ : Env} {xs : List Int} (r : Int → Int → Bool) (h : mVar i Γ = .ok (.lst (xs.map D.int))) (hl : xs.length ≤ LIM)
    (he : ∀ x y, x ∈ xs → y ∈ xs → elt (setAll [a, b] [.int x, .int y] (wipeE Γ [a, b])) = .ok (.bl (r x y))) :
    mN (c1 dAll) (mCons (mComp [a, b] (.tp [a, b]) (mI zipI (mCons (mVar i) (mCons (mSl (mVar i) (oSome (mC (.int 1))) (oNone)) (mNil)))) (tYesM) elt) (mNil)) Γ = .ok (.bl (consec r xs)) := by
  have e1 : mSl (mVar i) (oSome (mC (.int 1))) (oNone) Γ = .ok (.lst ((xs.drop 1).map D.int)) := by
    unfold mSl
    rw [h]
    have := cut_from (xs.map D.int) 1
    show Out.ok (D.lst (cutD (xs.map D.int) (some 1) none)) = _
    rw [show (1 : Int) = ((1 : Nat) : Int) from rfl, this, List.map_drop]
  have e2 : mI zipI (mCons (mVar i) (mCons (mSl (mVar i) (oSome (mC (.int 1))) (oNone)) (mNil))) Γ = .ok ((xs.zip (xs.drop 1)).map fun p => D.tup [.int p.1, .int p.2]) := by
    refine mI_ok (a2_ok h e1) ?_
    show Out.ok (zipL _ _) = _
    rw [zipL_ints]
  refine b1_ok (mComp_all (fun p : Int × Int => D.tup [.int p.1, .int p.2]) (fun p => D.bl (r p.1 p.2)) e2 (fun p hp => ⟨_, rfl, ?_⟩) ?_) (dAll_map _ _)
  · obtain ⟨x, y⟩ := p
    have h2 := List.of_mem_zip hp
    exact he x y h2.1 (List.mem_of_mem_drop h2.2)
  · rw [List.length_zip]
    omega
theorem consec_and (r s : Int → Int → Bool) (xs : List Int) : consec (fun a b => r a b && s a b) xs = (consec r xs && consec s xs) := by
  unfold consec
  generalize xs.zip (xs.drop 1) = l
  induction l with
  | nil => rfl
  | cons p l ih =>
    simp only [List.all_cons, ih]
    cases r p.1 p.2 <;> cases s p.1 p.2 <;> simp
theorem consec_of {r : Int → Int → Bool} : ∀ {xs : List Int}, xs.Pairwise (fun a b => r a b = true) → consec r xs = true
  | [], _ => rfl
  | [x], _ => rfl
  | x :: y :: xs, h => by
    have ih := consec_of (r := r) (xs := y :: xs) (List.pairwise_cons.mp h).2
    have hx := (List.pairwise_cons.mp h).1 y List.mem_cons_self
    unfold consec at ih ⊢
    simp only [List.drop_succ_cons, List.drop_zero] at ih ⊢
    rw [List.zip_cons_cons, List.all_cons, hx, Bool.true_and]
    exact ih
theorem dLRng_nat {n : Nat} (h : n ≤ 16777216) : dLRng (.int (n : Nat)) = .ok (.lst (((List.range n).map fun i => ((i : Nat) : Int)).map D.int)) := by
  show (if 0 ≤ ((n : Nat) : Int) ∧ ((n : Nat) : Int) ≤ (LIM : Nat) then Out.ok (D.lst (intsD 0 ((n : Nat) : Int).toNat)) else .bad) = _
  rw [if_pos (by unfold LIM; omega), intsD_zero, List.map_map, Int.toNat_natCast]
  rfl
theorem dSorted_ints (ns : List Int) : dSorted (.lst (ns.map D.int)) = .ok (.lst ((srt ns).map D.int)) := by
  unfold dSorted
  rw [onInts_map]
/-- slices of what is a map -/
def cutG {α : Type} (xs : List α) (lo hi : Option Int) : List α := (xs.drop (HT.sIx xs.length 0 lo)).take (HT.sIx xs.length xs.length hi - HT.sIx xs.length 0 lo)
theorem cut_map {α : Type} (f : α → D) (xs : List α) (lo hi : Option Int) : cutD (xs.map f) lo hi = (cutG xs lo hi).map f := by
  unfold cutD cutG
  rw [List.length_map, List.map_take, List.map_drop]
theorem cut_mem {α : Type} {xs : List α} {lo hi : Option Int} {x : α} (h : x ∈ cutG xs lo hi) : x ∈ xs := List.mem_of_mem_drop (List.mem_of_mem_take h)
theorem cut_len {α : Type} (xs : List α) (lo hi : Option Int) : (cutG xs lo hi).length ≤ xs.length := by
  unfold cutG
  rw [List.length_take, List.length_drop]
  omega
end FL
set_option Elab.async false
set_option linter.all false
set_option maxRecDepth 100000
set_option maxHeartbeats 4000000
/-! a call of a name that holds a def -/
namespace FL
open PySem PySem.Spec PyProof.Rows L2 LamX
variable {X : Cx} {K : PySem.W.Frag} {mg : Str → Option Value} {T : Tb} {E : XK} {M H : Hp}
def FnAll (P : Program) (w : World) (K : PySem.W.Frag) (mg : Str → Option Value) (base : Heap) (T : Tb) (k n : Nat) (fs : List (Str × (List D → Out D))) : Prop := ∀ p ∈ fs, FnI P w K mg base T k p.1 n p.2
theorem fa_nil {P : Program} {w : World} {base : Heap} {k n : Nat} : FnAll P w K mg base T k n [] := fun p hp => by cases hp
theorem fa_cons {P : Program} {w : World} {base : Heap} {k n : Nat} {x : Str} {f : List D → Out D} {fs : List (Str × (List D → Out D))} (h : FnI P w K mg base T k x n f) (t : FnAll P w K mg base T k n fs) : FnAll P w K mg base T k n ((x, f) :: fs) := fun p hp => by
  rcases List.mem_cons.mp hp with rfl | hp
  · exact h
  · exact t p hp
def fnOf? (fs : List (Str × (List D → Out D))) (y : Str) : Option (List D → Out D) := (fs.find? fun p => decide (p.1 = y)).map (·.2)
def mCallV (i n : Nat) (fs : List (Str × (List D → Out D))) (ms : Env → Out (List D)) : Env → Out D := fun Γ => match Γ[i]? with
  | some (some (.dat (.fn y))) => (match fnOf? fs y with
    | some f => mN (arg n f) ms Γ
    | none => .bad)
  | _ => .bad
theorem fnOf_mem {fs : List (Str × (List D → Out D))} {y : Str} {f : List D → Out D} (h : fnOf? fs y = some f) : (y, f) ∈ fs := by
  unfold fnOf? at h
  cases q : fs.find? fun p => decide (p.1 = y) with
  | none => rw [q] at h; cases h
  | some p =>
    rw [q] at h
    have h1 := List.mem_of_find?_eq_some q
    have h0 := List.find?_some q
    have h2 : p.1 = y := by simpa using h0
    have h3 : p.2 = f := by simpa using h
    rw [← h2, ← h3]
    exact h1
theorem e_callV (i : Nat) {n k : Nat} {x : Str} {fs : List (Str × (List D → Out D))} {e : Expr} {es : List Expr} {ms : Env → Out (List D)} {p pos : Pos} (F : FnAll X.prog X.w X.K X.mg X.base T k n fs) (hr : Room k X.A) (hx : Passes (L2N.CX X.prog X.w) X E)
    (ha : PAm X T E (e :: es) ms) (hN : X.N[i]? = some x := by rfl) (hv : Vis X.env.scope x := by first | exact Or.inl rfl | exact Or.inr (Or.inl rfl) | exact Or.inr (Or.inr rfl)) (hdb : (x == ("__debug__" : Str)) = false := by decide) (hcd : (x == ("__classdict__" : Str)) = false := by decide)
    (he : starEach (e :: es) X.env = (false, eval e X.env) :: starEach es X.env := by rfl) (hpl : (backTo pos (starEach es X.env)).any (·.1) = false := by rfl) :
    PEm X T E (.Call (.Name x p) (e :: es) [] pos) (mCallV i n fs ms) := by
  refine ⟨fun pins s σ H Q I h => ?_⟩
  obtain ⟨Γ, M, H0, r, f0⟩ := h
  unfold mCallV at f0
  cases q : Γ[i]? with
  | none => rw [q] at f0; exact f0.elim
  | some o =>
    rw [q] at f0
    cases o with
    | none => exact f0.elim
    | some sl =>
      cases sl with
      | own _ => exact f0.elim
      | dct _ => exact f0.elim
      | dco _ => exact f0.elim
      | obj _ _ _ => exact f0.elim
      | rob _ _ => exact f0.elim
      | dat d =>
        cases d with
        | fn y =>
          dsimp only at f0
          cases q2 : fnOf? fs y with
          | none => rw [q2] at f0; exact f0.elim
          | some f =>
            rw [q2] at f0
            dsimp only at f0
            obtain ⟨v, hs, hrp⟩ := r.dat i _ q
            cases hrp with
            | fn hm =>
              obtain ⟨a, fd, ps, h1, h2, h3, h4⟩ := F _ (fnOf_mem q2)
              have ea := hm.symm.trans h1
              cases ea
              refine (pe_callL (i := i) h4 hr hN hv h2 h3 .nil hx ha hdb hcd he hpl).run pins s σ H Q I ⟨hs, ?_⟩
              refine ⟨Γ, M, H0, r, FinA.bindE f0 fun d v H1 M1 _ e1 r1 f1 => ?_⟩
              have rs := r.ext e1
              unfold arg at f1
              by_cases hn : d.length = n
              · rw [if_pos hn] at f1
                have hv : v ++ [] = v := List.append_nil v
                show spOf _ _ _ _ _ (v ++ []) _ _ _
                rw [hv]
                exact ⟨by rw [r1.length]; exact hn, rs.tb, M1, d, rs.ms, rs.nt, r1, f1⟩
              · rw [if_neg hn] at f1
                exact f1.elim
        | _ => exact f0.elim
end FL
set_option Elab.async false
set_option linter.all false
set_option maxRecDepth 100000
set_option maxHeartbeats 4000000
/-! rules for tuples: t * 1, text * n, sum, sorted, len(set(t)) -/
namespace FL
open PySem PySem.Spec PyProof.Rows L2 LamX
variable {X : Cx} {K : PySem.W.Frag} {mg : Str → Option Value} {T : Tb} {E : XK} {M H : Hp}
/-! ### tuple * 1 -/
theorem tuple_mul1 (l : Addr) (items : Array Value) (n : Nat) (dd : Option Addr) (sl : Array (Option Value)) (u : Tok) :
    Meets (Builtin.«tuple.__mul__» ⟨[.ref l, .int 1 u], []⟩) (fun _ R s => s.heap.get? l = some { cls := .type "tuple", dict := dd, data := .seq items n, slots := sl } ∧ R (.ok (.ret (Value.ref l))) s) :=
  .of_wp fun prog w A R s h => by
    obtain ⟨hp, g, d, tk, os⟩ := s
    obtain ⟨hl, h⟩ := h
    have f1 := AutoSeq1.idx_int
    have c1 : (items.isEmpty || ((1 : Int) == 1)) = true := by simp
    wp_walk using wpAny_loadPart' hl
    all_goals first
      | exact ⟨_, rfl, h⟩
      | (rw [c1]; exact ⟨_, rfl, h⟩)
      | skip
def rTup1 (K : PySem.W.Frag) : R2 := fun x y H Q => ∃ l xs, x = .ref l ∧ y = .int 1 ∧ SqT K H l xs ∧ Q (.ref l) H
theorem op_tup1 : OpR X (binaryOp .Mult) (rTup1 X.K) := by
  intro pins s σ H x y v u Q I rx ry h
  obtain ⟨l, xs, rfl, rfl, hT, q⟩ := h
  cases rx
  obtain ⟨t, rfl⟩ := ry
  obtain ⟨its, r, ⟨⟨cls, dd, data, sl⟩, ho, hc, n, hd⟩, hs⟩ := I.tuple hT
  simp only at hc hd
  subst hc hd
  refine wpAny_binaryOp_repeat_ref (T := "tuple") (U := "int") (by decide) ⟨_, ho, rfl⟩ (fun s' => typeIs_int s' 1 t) noFill_tuple_mul F.fills_int_mul F.slot_int_rmul repeat_tuple F.slot_int_index.lookup
    (call_meets F.slot_int_rmul (typeIs_int s 1 t) F.entry_int_rmul (F.args_int_rmul_2 _ _) (int_rmul_tuple 1 t l its.toArray n dd sl)
      ⟨ho, rfl, ⟨_, ho, rfl⟩, call_meets F.slot_tuple_mul ⟨_, ho, rfl⟩ F.entry_tuple_mul (F.args_tuple_mul_2 _ _) (tuple_mul1 l its.toArray n dd sl t) ⟨ho, ?_⟩⟩)
  exact ⟨.ref l, H, I, rfl, q⟩
/-! ### text * n -/
def repS (x : Str) (n : Nat) : Str := if n = 1 then x else ⟨(List.replicate n x.cps).foldl (· ++ ·) #[]⟩
def rStrN : R2 := fun x y H Q => ∃ (z : Str) (k : Int), x = .str z ∧ y = .int k ∧ 1 ≤ k ∧ k ≤ 1000 ∧ 1 ≤ z.length ∧ z.length ≤ 1000 ∧ Q (.str (repS z k.toNat)) H
theorem size_fold (a : Array Nat) : ∀ (m : Nat) (b : Array Nat), ((List.replicate m a).foldl (· ++ ·) b).size = b.size + m * a.size
  | 0, b => by simp
  | m + 1, b => by
    rw [List.replicate_succ, List.foldl_cons, size_fold a m, Array.size_append, Nat.succ_mul]
    omega
theorem op_strN : OpR X (binaryOp .Mult) rStrN := by
  intro pins s σ H x y v u Q I rx ry h
  obtain ⟨z, k, rfl, rfl, h1, h2, h3, h4, q⟩ := h
  obtain ⟨t, rfl⟩ := rx
  obtain ⟨t2, rfl⟩ := ry
  have hlen : z.length * k.toNat ≤ 1000 * 1000 := Nat.mul_le_mul h4 (by omega)
  refine P.mul_str (by rw [decide_eq_false (by omega), decide_eq_false (by omega)]; rfl) (fun _ _ => ?_) (fun _ _ => ?_) ?_
  · have : ((2 : Int) ^ 63 - 1) / k ≥ 1000 := by
      have hk : (0 : Int) < k := by omega
      have := (Int.le_ediv_iff_mul_le hk (a := 1000) (b := (2 : Int) ^ 63 - 1)).mpr (by omega)
      exact this
    omega
  · exact decide_eq_false (by rw [sizeLine_eq]; omega)
  · rw [if_neg (by omega)]
    have hz0 : (z.length == 0) = false := beq_eq_false_iff_ne.mpr (by omega)
    unfold repS at q
    by_cases e : k = 1
    · subst e
      rw [if_pos (by rfl)]
      rw [if_pos (by rfl)] at q
      exact ⟨.str z, H, I, ⟨t, rfl⟩, q⟩
    · rw [if_neg (by rw [hz0, Bool.or_false, beq_iff_eq]; exact e)]
      rw [if_neg (by omega)] at q
      refine ⟨?_, .str _, H, I.tok _, ⟨_, rfl⟩, q⟩
      show (Array.size _) ≤ sizeLine
      rw [size_fold, sizeLine_eq]
      have : k.toNat * z.cps.size ≤ 1000 * 1000 := Nat.mul_le_mul (by omega) h4
      show 0 + k.toNat * z.cps.size ≤ _
      omega
def dMulX : D → D → Out D
  | .str x, .int k => if 1 ≤ k ∧ k ≤ 1000 ∧ 1 ≤ x.length ∧ x.length ≤ 1000 then .ok (.str (repS x k.toNat)) else .bad
  | .tup xs, .int k => if k = 1 then .ok (.tup xs) else dMul (.tup xs) (.int k)
  | _, _ => .bad
theorem nx_mulX : noX dMulX := fun a b c h => by
  unfold dMulX at h
  split at h
  · split at h <;> cases h
  · split at h
    · cases h
    · exact nx_mul _ _ _ h
  · cases h
def rMulX (K : PySem.W.Frag) : R2 := fun x y H Q => (rStrN x y H Q ∨ rTup1 K x y H Q) ∨ rMulA K x y H Q
theorem op_mulX : OpR X (binaryOp .Mult) (rMulX X.K) := (op_strN.or op_tup1).or op_mulA
theorem od_mulX : OpD K mg T (rMulX K) dMulX := fun x y dx dy M H Q d s nt rx ry h q => by
  cases rx with
  | str z =>
    cases ry with
    | int k =>
      have h : (if 1 ≤ k ∧ k ≤ 1000 ∧ 1 ≤ z.length ∧ z.length ≤ 1000 then Out.ok (D.str (repS z k.toNat)) else .bad) = .ok d := h
      by_cases hl : 1 ≤ k ∧ k ≤ 1000 ∧ 1 ≤ z.length ∧ z.length ≤ 1000
      · rw [if_pos hl] at h
        cases h
        exact .inl (.inl ⟨z, k, rfl, rfl, hl.1, hl.2.1, hl.2.2.1, hl.2.2.2, q _ _ _ (Ext.refl s nt) (.str _)⟩)
      · rw [if_neg hl] at h
        cases h
    | _ => cases h
  | @tup a vs xs ha ra =>
    cases ry with
    | int k =>
      have h : (if k = 1 then Out.ok (D.tup xs) else dMul (.tup xs) (.int k)) = .ok d := h
      by_cases hk : k = 1
      · rw [if_pos hk] at h
        cases h
        subst hk
        exact .inl (.inr ⟨a, vs, rfl, rfl, same_sqT s ha, q _ _ _ (Ext.refl s nt) (.tup ha ra)⟩)
      · rw [if_neg hk] at h
        exact .inr (od_mul (T := T) _ _ _ _ M H Q d s nt (.tup ha ra) (.int k) h q)
    | _ => cases h
  | _ => cases h
theorem e_mulX {a b : Expr} {ma mb : Env → Out D} {pos : Pos} (ha : PEm X T E a ma) (hb : PEm X T E b mb) : PEm X T E (.BinOp a .Mult b pos) (m2 dMulX ma mb) := e_op op_mulX od_mulX nx_mulX ha hb
/-! ### sum of a tuple -/
def rSumT (K : PySem.W.Frag) : List V → Hp → VK → Prop := fun vs H Q => ∃ (a : Addr) (ns : List Int), vs = [V.ref a] ∧ SqT K H a (ns.map V.int) ∧ Q (.int ns.sum) H
theorem cr_sumT (hc : X.calm = true) : CallR X (.builtin "sum") (rSumT X.K) := by
  intro pins s σ H vs us Q I r h
  obtain ⟨a, ns, rfl, hs, q⟩ := h
  obtain ⟨its, rv, hl, _⟩ := I.tuple hs
  rw [Vals.ref1 r]
  have hi := rv.ints
  obtain ⟨xs, e⟩ := hi.allInts.items
  have hn : numsOf (intItems xs).toList = ns := by rw [← e]; exact hi.numsOf
  rw [nums_intItems] at hn
  rw [e] at hl
  refine PySem.W.ktm_sumG (I.ok.hd hc) hl fun h' tk t' hk => ?_
  rw [preSum_eq, List.take_of_length_le (by simp), hn]
  exact ⟨.int _, H, I.kept hk, ⟨_, rfl⟩, q⟩
def onIntsT (f : List Int → Out D) : D → Out D
  | .tup xs => (match toInts xs with
    | some ns => f ns
    | none => .bad)
  | _ => .bad
theorem onIntsT_map {f : List Int → Out D} {ns : List Int} : onIntsT f (.tup (ns.map D.int)) = f ns := by
  show (match toInts (ns.map D.int) with | some ns => f ns | none => .bad) = f ns
  rw [toInts_map]
theorem cd_intsT {r : List V → Hp → VK → Prop} {f : List Int → Out D} (h : ∀ a ns M H Q d, Same M H → (NoT T M H) → SqT K M a (ns.map V.int) → f ns = .ok d → (∀ v H' M', Ext T M H M' H' → Rp K mg M' v d → Q v H') → r [V.ref a] H Q) : CallD K mg T r (c1 (onIntsT f)) := cd_1 fun x dx M H Q d s nt rx hf q => by
  cases rx with
  | @tup a vs xs ha ra =>
    have hf : (match toInts xs with | some ns => f ns | none => .bad) = .ok d := hf
    cases e : toInts xs with
    | none => rw [e] at hf; cases hf
    | some ns =>
      rw [e] at hf
      rw [toInts_rp ra e] at ha
      exact h a ns M H Q d s nt ha hf q
  | _ => cases hf
theorem nx_onIntsT {f : List Int → Out D} (h : ∀ ns c, f ns ≠ .exc c) : noX1 (onIntsT f) := fun d c z => by
  unfold onIntsT at z
  split at z
  · split at z
    · exact h _ _ z
    · cases z
  · cases z
def dSumT : D → Out D := onIntsT fun ns => .ok (.int ns.sum)
theorem b_sumT (hc : X.calm = true) (hm : X.mg "sum" = none) : Bt X T "sum" (c1 dSumT) := .fn (cr_sumT hc) (cd_intsT fun a ns M H Q d s nt ha hf q => by
  cases hf
  exact ⟨a, ns, rfl, same_sqT s ha, q _ _ _ (Ext.refl s nt) (.int _)⟩) (nx_c1 (nx_onIntsT fun _ _ h => by cases h)) hm (by decide +kernel) (by decide) (by decide)
end FL
set_option Elab.async false
set_option linter.all false
set_option maxRecDepth 100000
set_option maxHeartbeats 4000000
/-! sorted(t) of a tuple of ints; len(set(t)), sorted(set(t)) -/
namespace FL
open PySem PySem.Spec PyProof.Rows L2 LamX
variable {X : Cx} {K : PySem.W.Frag} {mg : Str → Option Value} {T : Tb} {E : XK} {M H : Hp}
def rSortedT (K : PySem.W.Frag) : List V → Hp → VK → Prop := fun vs H Q => ∃ (a : Addr) (ns : List Int), vs = [V.ref a] ∧ SqT K H a (ns.map V.int) ∧ ns.length < 64 ∧
  ∀ (ns' : List Int) (p : Addr), ns'.Perm ns → ns'.Pairwise (· ≤ ·) → H p = none → Q (.ref p) (upd H p (.lst (ns'.map V.int)))
theorem cr_sortedIT : CallR X (.builtin "sorted") (FL.rSortedT X.K) := by
  intro pins s σ H vs us Q I r h
  obtain ⟨a, ns, rfl, hs, h64, q⟩ := h
  obtain ⟨its, rv, ⟨o, ho, hc, n, hd⟩, hz⟩ := I.tuple hs
  rw [Vals.ref1 r]
  have hi := rv.ints
  have hle : its.length = ns.length := by
    have := rv.length
    rw [List.length_map] at this
    exact this.symm
  refine Calls.call_function_entry kind_sorted plain_sorted entry_sorted (args_sorted1 _) ?_
  unfold Builtin.«sorted»
  refine wpAny_bind (m := checkCount "sorted" 1 1 _) (wpAny_pure ?_)
  refine wpAny_bind (wpAny_collect_seq a (.inr rfl) ho hc hd (fun h' hk => ?_) (by rw [List.size_toArray, hle, sizeLine_eq]; omega))
  rw [show its.toArray.toList = its from rfl]
  refine wpAny_bind (wpAny_newList ?_ (by rw [hle, sizeLine_eq]; omega))
  have hoL : (h'.push (seqObj "list" its.toArray 0)).get? h'.objs.size = some (seqObj "list" its.toArray 0) := Heap.get?_push_size _ rfl
  refine wpAny_bind (wpAny_holding (wpAny_call_entry slot_list_sort ⟨_, hoL, rfl⟩ entry_list_sort (list_sort_tree hoL hi (by rw [hle]; exact h64) fun out ns' a1 a2 a3 => ⟨_, rfl, ?_⟩) (args_list_sort _)))
  obtain ⟨c, hc2⟩ := sortedHeap_at (vs := its) (out := out) hoL
  have I1 : Inv X pins σ H { s with heap := h' } := I.kept (t' := s.toks) hk
  have hlen : (ns'.map V.int).length ≤ sizeLine := by rw [List.length_map, a2.length_eq, sizeLine_eq]; omega
  refine wpAny_pure ⟨_, rfl, .ref h'.objs.size, upd H h'.objs.size (.lst (ns'.map V.int)), I1.laid (t' := s.toks) (fun b u e => ?_) (Nat.le_refl _) ⟨hlen, out.toList, c, vals_of_ints a1, hc2⟩, rfl, q _ _ a2 a3 (I1.hok.fresh (Nat.le_refl _))⟩
  have hlt := Heap.lt_size e
  show (sortedHeap (h'.push (seqObj "list" its.toArray 0)) h'.objs.size its out).get? b = some u
  rw [sortedHeap_old (Nat.ne_of_lt hlt) (by rw [size_push']; exact Nat.lt_succ_of_lt hlt)]
  exact Heap.get?_push_of_some _ e
def dSortedT : D → Out D := onIntsT fun ns => if ns.length < 64 then .ok (.lst ((srt ns).map D.int)) else .bad
theorem b_sortedT (hm : X.mg "sorted" = none) : Bt X T "sorted" (c1 dSortedT) := .fn cr_sortedIT (cd_intsT fun a ns M H Q d s nt ha hf q => by
  by_cases hl : ns.length < 64
  · rw [if_pos hl] at hf
    cases hf
    refine ⟨a, ns, rfl, same_sqT s ha, hl, fun ns' p h1 h2 hp => ?_⟩
    rw [srt_eq h1 h2]
    obtain ⟨M', e, rr⟩ := newLst (K := X.K) (mg := X.mg) (T := T) hp s nt (rpL_ints (srt ns))
    exact q _ _ _ e rr
  · rw [if_neg hl] at hf
    cases hf) (nx_c1 (nx_onIntsT fun _ _ h => by split at h <;> cases h)) hm (by decide +kernel) (by decide) (by decide)
/-! ### len(set(t)), sorted(set(t)) -/
def dd : List Int → List Int
  | [] => []
  | x :: xs => if x ∈ xs then dd xs else x :: dd xs
theorem dd_mem {k : Int} : ∀ {ns : List Int}, k ∈ dd ns ↔ k ∈ ns
  | [] => Iff.rfl
  | x :: xs => by
    unfold dd
    by_cases h : x ∈ xs
    · rw [if_pos h, dd_mem, List.mem_cons]
      exact ⟨.inr, fun z => z.elim (fun e => e ▸ h) id⟩
    · rw [if_neg h, List.mem_cons, List.mem_cons, dd_mem]
theorem dd_nodup : ∀ ns : List Int, (dd ns).Nodup
  | [] => List.nodup_nil
  | x :: xs => by
    unfold dd
    by_cases h : x ∈ xs
    · rw [if_pos h]
      exact dd_nodup xs
    · rw [if_neg h]
      exact List.nodup_cons.mpr ⟨fun z => h (dd_mem.mp z), dd_nodup xs⟩
def dis (ns : List Int) : List Int := srt (dd ns)
theorem dis_mem {ns : List Int} {k : Int} : k ∈ dis ns ↔ k ∈ ns := by
  unfold dis
  rw [(srt_perm _).mem_iff]
  exact dd_mem
theorem dis_nodup (ns : List Int) : (dis ns).Nodup := (srt_perm _).nodup_iff.mpr (dd_nodup ns)
theorem len_of {xs ns : List Int} (hn : xs.Nodup) (hm : ∀ k, k ∈ xs ↔ k ∈ ns) : xs.length = (dis ns).length :=
  ((List.perm_ext_iff_of_nodup hn (dis_nodup ns)).mpr fun k => by rw [hm, dis_mem]).length_eq
def tLenSetT (K : PySem.W.Frag) (ta : TE) : TE := fun σ H Q => ta σ H fun x H1 => ∃ (l : Addr) (ns : List Int), x = .ref l ∧ SqT K H1 l (ns.map V.int) ∧ ns.length ≤ 4000 ∧ Q (.int ((dis ns).length : Nat)) H1
theorem pe_lenSetT {a : Expr} {ta : TE} {p p2 q pos : Pos} (hc : X.calm = true) (hg : Gl X "len") (hm : X.mg "len" = none) (hg2 : Gl X "set") (hm2 : X.mg "set" = none) (ha : PE X a ta)
    (na : starEach [a] X.env = (false, eval a X.env) :: starEach [] X.env := by rfl) : PE X (.Call (.Name "len" p) [.Call (.Name "set" p2) [a] [] q] [] pos) (tLenSetT X.K ta) := by
  refine ⟨fun pins s σ H Q I h => ?_⟩
  refine Call_ (ld_blt I hg hm boot_len ?_)
  refine PyProof.Rows.callWith_builtin1 (PyProof.Rows.args_cons ?_ rfl) rfl rfl
  refine Call_ (ld_blt I hg2 hm2 boot_set ?_)
  refine PyProof.Rows.callWith_type1 (PyProof.Rows.args_cons (thn (ha.run pins s σ H _ I h) fun v s1 ⟨x, H1, I1, r1, q1⟩ => PyProof.Rows.args_nil ?_) na) na rfl
  obtain ⟨l, ns, rfl, hq, hl, q1⟩ := q1
  cases r1
  obtain ⟨its, r, pl, hz⟩ := I1.tuple hq
  refine call_set_tupI ns (I1.ok.hd hc) pl (by simpa using r.ints) (by unfold scanBound; omega) fun h' tk c hS hcl hk => ?_
  refine PyProof.Rows.args_nil ?_
  obtain ⟨o, es, ep, t, ho, hex, hd, _, nd, hmm, hb, hf, hn, _⟩ := hS
  have I2 : Inv X pins σ H1 { s1 with heap := h', toks := tk } := I1.kept hk
  have hlen : es.size = (dis ns).length := by
    have := len_of (ns := ns) nd (fun k => by rw [← hmm k]; simp)
    rw [List.length_map, Array.length_toList] at this
    exact this
  refine call_len_set ho hex hd hf (by have := hcl; omega) ⟨.int ((dis ns).length : Nat), H1, I2.tok _, ⟨_, by rw [hlen]⟩, q1⟩
def dLenSet : D → Out D := onIntsT fun ns => if ns.length ≤ 4000 then .ok (.int ((dis ns).length : Nat)) else .bad
theorem e_lenset {a : Expr} {m : Env → Out D} {p p2 q pos : Pos} (hc : X.calm = true) (hg : Gl X "len") (hg2 : Gl X "set") (hm : X.mg "len" = none) (hm2 : X.mg "set" = none) (ha : PEm X T E a m)
    (na : starEach [a] X.env = (false, eval a X.env) :: starEach [] X.env := by rfl) : PEm X T E (.Call (.Name "len" p) [.Call (.Name "set" p2) [a] [] q] [] pos) (m1 dLenSet m) :=
  weakE (pe_lenSetT hc hg hm hg2 hm2 ha na) fun σ H Q h => by
    obtain ⟨Γ, M, H0, r, f⟩ := h
    refine ⟨Γ, M, H0, r, Fin.bind f fun d v H1 M1 _ e1 r1 f1 => ?_⟩
    have rs := r.ext e1
    cases r1 with
    | @tup a vs xs ha ra =>
      have f1 : Fin X.K X.mg T M1 H1 Q E (match toInts xs with | some ns => (if ns.length ≤ 4000 then .ok (.int ((dis ns).length : Nat)) else .bad) | none => .bad) := f1
      cases e : toInts xs with
      | none => rw [e] at f1; exact f1.elim
      | some ns =>
        rw [e] at f1
        have f1 : Fin X.K X.mg T M1 H1 Q E (if ns.length ≤ 4000 then .ok (.int ((dis ns).length : Nat)) else .bad) := f1
        rw [toInts_rp ra e] at ha
        by_cases hl : ns.length ≤ 4000
        · rw [if_pos hl] at f1
          exact ⟨a, ns, rfl, same_sqT rs.ms ha, hl, f1 _ _ _ rs.ext0 (.int _)⟩
        · rw [if_neg hl] at f1
          exact f1.elim
    | _ => exact f1.elim
end FL
set_option Elab.async false
set_option linter.all false
set_option maxRecDepth 100000
set_option maxHeartbeats 4000000
/-! words: tuples of ints; lists of words -/
namespace FL
open PySem PySem.Spec PyProof.Rows L2 LamX
def wD (w : List Int) : D := .tup (w.map D.int)
def wsD (ws : List (List Int)) : D := .lst (ws.map wD)
theorem enum_map {α : Type} (f : α → D) (z : α) (xs : List α) : enumI [.lst (xs.map f)] = .ok ((List.range xs.length).map fun i => D.tup [.int ((i : Nat) : Int), f (xs.getD i z)]) := by
  show Out.ok _ = Out.ok _
  congr 1
  apply List.ext_getElem?
  intro i
  simp only [List.getElem?_mapIdx, List.getElem?_map]
  by_cases h : i < xs.length
  · simp [h, List.getD]
  · simp [h]
theorem zipL_map {α β : Type} (f : α → D) (g : β → D) : ∀ (xs : List α) (ys : List β), zipL (xs.map f) (ys.map g) = (xs.zip ys).map fun p => D.tup [f p.1, g p.2]
  | [], ys => by simp [zipL]
  | x :: xs, [] => by simp [zipL]
  | x :: xs, y :: ys => by simp [zipL, zipL_map f g xs ys]
theorem ix_map {α : Type} (f : α → D) (z : α) {xs : List α} {j : Nat} (h : j < xs.length) : dIx (.lst (xs.map f)) (.int (j : Nat)) = .ok (f (xs.getD j z)) := by
  refine dIx_lst (j := j) rfl ?_
  rw [List.getElem?_map]
  simp [List.getD, h]
theorem ix_mapAt {α : Type} (f : α → D) (z : α) {xs : List α} {i : Int} (h0 : 0 ≤ i) (h : i < xs.length) : dIx (.lst (xs.map f)) (.int i) = .ok (f (xs.getD i.toNat z)) := by
  obtain ⟨j, rfl⟩ : ∃ j : Nat, i = j := ⟨i.toNat, by omega⟩
  rw [ix_map f z (by omega), Int.toNat_natCast]
theorem ixT_ints {w : List Int} {j : Nat} (h : j < w.length) : dIx (wD w) (.int (j : Nat)) = .ok (.int (w.getD j 0)) := by
  show (match atI (w.map D.int) ((j : Nat) : Int) with | some d => Out.ok d | none => .bad) = _
  have : (w.map D.int)[j]? = some (.int (w.getD j 0)) := by
    rw [List.getElem?_map]
    simp [List.getD, h]
  rw [atI_nat this]
theorem len_wD (w : List Int) : dLen (wD w) = .ok (.int (w.length : Nat)) := by
  show Out.ok _ = _
  rw [List.length_map]
theorem len_wsD (ws : List (List Int)) : dLen (wsD ws) = .ok (.int (ws.length : Nat)) := by
  show Out.ok _ = _
  rw [List.length_map]
theorem lt_wD (a b : List Int) : dLt (wD a) (wD b) = .ok (.bl (HT.lexLt a b)) := by
  show (match toInts (a.map D.int), toInts (b.map D.int) with | some ns, some ms => Out.ok (D.bl (HT.lexLt ns ms)) | _, _ => .bad) = _
  rw [toInts_map, toInts_map]
theorem lex_irrefl : ∀ a : List Int, HT.lexLt a a = false
  | [] => rfl
  | x :: xs => by
    rw [HT.lexLt_cons, if_pos rfl]
    exact lex_irrefl xs
theorem lex_asymm : ∀ {a b : List Int}, HT.lexLt a b = true → HT.lexLt b a = false
  | [], [], _ => rfl
  | [], _ :: _, _ => rfl
  | _ :: _, [], h => by cases h
  | x :: xs, y :: ys, h => by
    rw [HT.lexLt_cons] at h ⊢
    by_cases e : x = y
    · rw [if_pos e] at h
      rw [if_pos e.symm]
      exact lex_asymm h
    · rw [if_neg e, decide_eq_true_iff] at h
      rw [if_neg (fun z => e z.symm), decide_eq_false_iff_not]
      omega
theorem lex_trans : ∀ {a b c : List Int}, HT.lexLt a b = true → HT.lexLt b c = true → HT.lexLt a c = true
  | [], [], _, h, _ => by cases h
  | [], _ :: _, [], _, h => by cases h
  | [], _ :: _, _ :: _, _, _ => rfl
  | _ :: _, [], _, h, _ => by cases h
  | _ :: _, _ :: _, [], _, h => by cases h
  | x :: xs, y :: ys, z :: zs, h1, h2 => by
    rw [HT.lexLt_cons] at h1 h2 ⊢
    by_cases e1 : x = y
    · rw [if_pos e1] at h1
      subst e1
      by_cases e2 : x = z
      · rw [if_pos e2] at h2 ⊢
        exact lex_trans h1 h2
      · rw [if_neg e2] at h2 ⊢
        exact h2
    · rw [if_neg e1, decide_eq_true_iff] at h1
      by_cases e2 : y = z
      · subst e2
        rw [if_neg e1, decide_eq_true_iff]
        exact h1
      · rw [if_neg e2, decide_eq_true_iff] at h2
        rw [if_neg (by omega), decide_eq_true_iff]
        omega
theorem lex_snoc : ∀ {a b : List Int} {x y : Int}, a.length = b.length → HT.lexLt (a ++ [x]) (b ++ [y]) = if a = b then decide (x < y) else HT.lexLt a b
  | [], [], x, y, _ => by
    rw [if_pos rfl, List.nil_append, List.nil_append, HT.lexLt_cons, HT.lexLt_nil_nil]
    by_cases e : x = y
    · rw [if_pos e, decide_eq_false (by omega)]
    · rw [if_neg e]
  | [], _ :: _, _, _, h => by simp at h
  | _ :: _, [], _, _, h => by simp at h
  | p :: a, q :: b, x, y, h => by
    rw [List.cons_append, List.cons_append, HT.lexLt_cons, HT.lexLt_cons]
    have ih := lex_snoc (a := a) (b := b) (x := x) (y := y) (by simpa using h)
    by_cases e : p = q
    · subst e
      rw [if_pos rfl, if_pos rfl, ih]
      by_cases e2 : a = b
      · rw [if_pos e2, if_pos (by rw [e2])]
      · rw [if_neg e2, if_neg (fun z => e2 (List.cons.inj z).2)]
    · rw [if_neg e, if_neg (fun z => e (List.cons.inj z).1), if_neg e]
/-! all words -/
def allw (L : Nat) : Nat → List (List Int)
  | 0 => [[]]
  | n + 1 => (allw L n).flatMap fun w => (List.range L).map fun l => w ++ [((l : Nat) : Int)]
theorem allw_mem {L : Nat} : ∀ {n : Nat} {w : List Int}, w ∈ allw L n ↔ w.length = n ∧ ∀ x ∈ w, 0 ≤ x ∧ x < (L : Int)
  | 0, w => by
    unfold allw
    rw [List.mem_singleton]
    constructor
    · rintro rfl
      exact ⟨rfl, fun x hx => by cases hx⟩
    · rintro ⟨h, _⟩
      exact List.length_eq_zero_iff.mp h
  | n + 1, w => by
    unfold allw
    rw [List.mem_flatMap]
    constructor
    · rintro ⟨v, hv, hw⟩
      obtain ⟨l, hl, rfl⟩ := List.mem_map.mp hw
      obtain ⟨h1, h2⟩ := allw_mem.mp hv
      have hl := List.mem_range.mp hl
      refine ⟨by rw [List.length_append, h1]; rfl, fun x hx => ?_⟩
      rcases List.mem_append.mp hx with h | h
      · exact h2 x h
      · rw [List.mem_singleton] at h
        omega
    · rintro ⟨h1, h2⟩
      have hne : w ≠ [] := fun z => by rw [z] at h1; simp at h1
      have e := List.dropLast_concat_getLast hne
      refine ⟨w.dropLast, allw_mem.mpr ⟨by rw [List.length_dropLast, h1]; rfl, fun x hx => h2 x (List.dropLast_subset w hx)⟩, List.mem_map.mpr ⟨(w.getLast hne).toNat, ?_, ?_⟩⟩
      · have := h2 _ (List.getLast_mem hne)
        rw [List.mem_range]
        omega
      · have := h2 _ (List.getLast_mem hne)
        rw [Int.toNat_of_nonneg this.1, e]
theorem allw_pw (L : Nat) : ∀ n : Nat, (allw L n).Pairwise fun a b => HT.lexLt a b = true
  | 0 => List.pairwise_singleton _ _
  | n + 1 => by
    unfold allw
    rw [List.pairwise_flatMap]
    refine ⟨fun w hw => ?_, List.Pairwise.imp_of_mem (fun {a b} ha hb hab x hx y hy => ?_) (allw_pw L n)⟩
    · rw [List.pairwise_map]
      refine List.pairwise_lt_range.imp fun {a b} h => ?_
      rw [lex_snoc rfl, if_pos rfl, decide_eq_true_iff]
      omega
    · obtain ⟨l, _, rfl⟩ := List.mem_map.mp hx
      obtain ⟨l2, _, rfl⟩ := List.mem_map.mp hy
      have h1 := (allw_mem.mp ha).1
      have h2 := (allw_mem.mp hb).1
      rw [lex_snoc (by omega), if_neg (fun z => by rw [z, lex_irrefl] at hab; cases hab)]
      exact hab
theorem allw_len (L : Nat) : ∀ n : Nat, (allw L n).length = L ^ n
  | 0 => rfl
  | n + 1 => by
    unfold allw
    have : ∀ l : List (List Int), (l.flatMap fun w => (List.range L).map fun l => w ++ [((l : Nat) : Int)]).length = l.length * L := fun l => by
      induction l with
      | nil => simp
      | cons a l ih =>
        rw [List.flatMap_cons, List.length_append, ih, List.length_map, List.length_range, List.length_cons, Nat.succ_mul]
        omega
    rw [this, allw_len L n, Nat.pow_succ]
/-- neighbours in a list of words -/
def riseW (ws : List (List Int)) : Bool := (ws.zip (ws.drop 1)).all fun p => HT.lexLt p.1 p.2
theorem riseW_of : ∀ {ws : List (List Int)}, ws.Pairwise (fun a b => HT.lexLt a b = true) → riseW ws = true
  | [], _ => rfl
  | [x], _ => rfl
  | x :: y :: xs, h => by
    have ih := riseW_of (ws := y :: xs) (List.pairwise_cons.mp h).2
    have hx := (List.pairwise_cons.mp h).1 y List.mem_cons_self
    unfold riseW at ih ⊢
    simp only [List.drop_succ_cons, List.drop_zero] at ih ⊢
    rw [List.zip_cons_cons, List.all_cons, hx, Bool.true_and]
    exact ih
/-- how far two words are apart -/
def ham (w v : List Int) : Nat := ((List.range w.length).filter fun i => !decide (w.getD i 0 = v.getD i 0)).length
theorem zip_range : ∀ (w v : List Int), w.length = v.length → w.zip v = (List.range w.length).map fun i => (w.getD i 0, v.getD i 0)
  | [], [], _ => rfl
  | [], _ :: _, h => by simp at h
  | _ :: _, [], h => by simp at h
  | a :: w, b :: v, h => by
    rw [List.zip_cons_cons, zip_range w v (by simpa using h), List.length_cons, List.range_succ_eq_map, List.map_cons, List.map_map]
    rfl
theorem sum_if {α : Type} (q : α → Bool) : ∀ l : List α, (l.map fun x => if q x = true then (1 : Int) else 0).sum = ((l.filter q).length : Nat)
  | [] => rfl
  | a :: l => by
    rw [List.map_cons, List.sum_cons, sum_if q l, List.filter_cons]
    split <;> simp <;> omega
theorem ham_zip {w v : List Int} (h : w.length = v.length) : ((w.zip v).map fun p => if (!decide (p.1 = p.2)) = true then (1 : Int) else 0).sum = (ham w v : Nat) := by
  rw [zip_range w v h, List.map_map]
  have := sum_if (fun i => !decide (w.getD i 0 = v.getD i 0)) (List.range w.length)
  exact this
end FL
set_option Elab.async false
set_option linter.all false
set_option maxRecDepth 100000
set_option maxHeartbeats 4000000
/-! sorted(set(t)) of a tuple of ints -/
namespace FL
open PySem PySem.Spec PyProof.Rows L2 LamX
variable {X : Cx} {K : PySem.W.Frag} {mg : Str → Option Value} {T : Tb} {E : XK} {M H : Hp}
theorem dis_eq {ns xs : List Int} (hp : xs.Pairwise (· < ·)) (hm : ∀ k, k ∈ xs ↔ k ∈ ns) : xs = dis ns := by
  unfold dis
  refine srt_eq ?_ (hp.imp fun h => by omega)
  refine (List.perm_ext_iff_of_nodup ?_ (dd_nodup ns)).mpr fun k => by rw [hm, dd_mem]
  exact hp.imp fun h e => by omega
def tSortSet (K : PySem.W.Frag) (ta : TE) : TE := fun σ H Q => ta σ H fun x H1 => ∃ (l : Addr) (ns : List Int), x = .ref l ∧ SqT K H1 l (ns.map V.int) ∧ ns.length < 64 ∧ ∀ p, H1 p = none → Q (.ref p) (upd H1 p (.lst ((dis ns).map V.int)))
theorem pe_sortSet {a : Expr} {ta : TE} {p p2 q pos : Pos} (hc : X.calm = true) (hg : Gl X "sorted") (hm : X.mg "sorted" = none) (hg2 : Gl X "set") (hm2 : X.mg "set" = none) (ha : PE X a ta)
    (na : starEach [a] X.env = (false, eval a X.env) :: starEach [] X.env := by rfl) : PE X (.Call (.Name "sorted" p) [.Call (.Name "set" p2) [a] [] q] [] pos) (tSortSet X.K ta) := by
  refine ⟨fun pins s σ H Q I h => ?_⟩
  refine Call_ (ld_blt I hg hm boot_sorted ?_)
  refine PyProof.Rows.callWith_builtin1 (PyProof.Rows.args_cons ?_ rfl) rfl rfl
  refine Call_ (ld_blt I hg2 hm2 boot_set ?_)
  refine PyProof.Rows.callWith_type1 (PyProof.Rows.args_cons (thn (ha.run pins s σ H _ I h) fun v s1 ⟨x, H1, I1, r1, q1⟩ => PyProof.Rows.args_nil ?_) na) na rfl
  obtain ⟨l, ns, rfl, hq, hl, q1⟩ := q1
  cases r1
  obtain ⟨its, r, pl, hz⟩ := I1.tuple hq
  refine call_set_tupI ns (I1.ok.hd hc) pl (by simpa using r.ints) (by unfold scanBound; omega) fun h' tk c hS hcl hk => ?_
  refine PyProof.Rows.args_nil ?_
  have I2 : Inv X pins σ H1 { s1 with heap := h', toks := tk } := I1.kept hk
  have hS2 : SetR X.w ({ s1 with heap := h', toks := tk } : Shared).heap s1.heap.objs.size (fun j => decide (j ∈ ns)) c := hS
  generalize ({ s1 with heap := h', toks := tk } : Shared) = s2 at I2 hS2 ⊢
  refine sorted_set hS2 (I1.ok.hd hc) (by omega) fun s' p out c2 xs k g o hp hg2 hi hs hmm hl2 => ?_
  have e2 : xs = dis ns := dis_eq hs (fun k => by rw [hmm]; simp)
  subst e2
  have hlen : ((dis ns).map V.int).length ≤ sizeLine := by rw [List.length_map, hl2, sizeLine_eq]; omega
  have hn : H1 p = none := I2.hok.fresh hp
  have J : Inv X pins σ (upd H1 p (.lst ((dis ns).map V.int))) { s2 with heap := s'.heap, gens := s'.gens, drawn := s'.drawn, toks := s'.toks } :=
    I2.call (ch := []) (Un.laid k hp hn) (I2.hok.laid k hp ⟨hlen, out.toList, c2, vals_of_ints hi, hg2⟩) (by rw [g]; exact I2.bare) (fun _ z => nomatch z)
  have e : s' = { s2 with heap := s'.heap, gens := s'.gens, drawn := s'.drawn, toks := s'.toks } := by
    cases s'
    cases s2
    cases o
    rfl
  rw [e]
  exact ⟨.ref p, _, J, rfl, q1 p hn⟩
def dSortSet : D → Out D := onIntsT fun ns => if ns.length < 64 then .ok (.lst ((dis ns).map D.int)) else .bad
theorem e_sortset {a : Expr} {m : Env → Out D} {p p2 q pos : Pos} (hc : X.calm = true) (hg : Gl X "sorted") (hg2 : Gl X "set") (hm : X.mg "sorted" = none) (hm2 : X.mg "set" = none) (ha : PEm X T E a m)
    (na : starEach [a] X.env = (false, eval a X.env) :: starEach [] X.env := by rfl) : PEm X T E (.Call (.Name "sorted" p) [.Call (.Name "set" p2) [a] [] q] [] pos) (m1 dSortSet m) :=
  weakE (pe_sortSet hc hg hm hg2 hm2 ha na) fun σ H Q h => by
    obtain ⟨Γ, M, H0, r, f⟩ := h
    refine ⟨Γ, M, H0, r, Fin.bind f fun d v H1 M1 _ e1 r1 f1 => ?_⟩
    have rs := r.ext e1
    cases r1 with
    | @tup a vs xs ha ra =>
      have f1 : Fin X.K X.mg T M1 H1 Q E (match toInts xs with | some ns => (if ns.length < 64 then .ok (.lst ((dis ns).map D.int)) else .bad) | none => .bad) := f1
      cases e : toInts xs with
      | none => rw [e] at f1; exact f1.elim
      | some ns =>
        rw [e] at f1
        have f1 : Fin X.K X.mg T M1 H1 Q E (if ns.length < 64 then .ok (.lst ((dis ns).map D.int)) else .bad) := f1
        rw [toInts_rp ra e] at ha
        by_cases hl : ns.length < 64
        · rw [if_pos hl] at f1
          refine ⟨a, ns, rfl, same_sqT rs.ms ha, hl, fun p hp => ?_⟩
          obtain ⟨M', e, rr⟩ := newLst (K := X.K) (mg := X.mg) (T := T) hp rs.ms rs.nt (rpL_ints (dis ns))
          exact f1 _ _ _ e rr
        · rw [if_neg hl] at f1
          exact f1.elim
    | _ => exact f1.elim
end FL
set_option Elab.async false
set_option linter.all false
set_option maxRecDepth 100000
set_option maxHeartbeats 4000000
/-! xs.count(y) of data -/
namespace FL
open PySem PySem.Spec PyProof.Rows L2 LamX
variable {X : Cx} {K : PySem.W.Frag} {mg : Str → Option Value} {T : Tb} {E : XK} {M H : Hp} {a : Expr} {ma mb : Env → Out D}
def rCntD (K : PySem.W.Frag) : V → List V → Hp → VK → Prop := fun x xs H Q => ∃ (a : Addr) (y : V) (d : PyData) (ds : List PyData), x = V.ref a ∧ xs = [y] ∧ Dp K H (V.ref a) (.list ds) ∧ Dp K H y d ∧
  SeqAt.shaped (.list ds) = true ∧ SeqAt.shaped d = true ∧ Q (.int ((ds.countP fun z => PyData.eqv z d : Nat) : Int)) H
theorem mt_countD (hu : X.A.units + 65 < cLine) : MtR X "list.count" (rCntD X.K) := by
  intro pins s σ H x xs v us Q I rx rxs h
  obtain ⟨a, y, d, ds, rfl, rfl, hl, hy, sl, sd, q⟩ := h
  cases rx
  cases rxs with
  | cons ry rt =>
    rename_i uy ut
    cases rt
    obtain ⟨bs, r1⟩ := Dp.reads I d y uy hy ry
    have hxs : PyData.canLayAll0 ds = true := SeqAt.canLay_of_shaped sl
    have hroom : X.A.units + 1 + min (PyData.depthAll ds) d.depth < cLine := room_in_shaped sd hu
    cases hl with
    | lst hs ha =>
      obtain ⟨its, rv, ⟨⟨cls, dd, data, sls⟩, n, ho, hc, hdn, hdt⟩, hlen⟩ := I.list hs
      simp only at hc hdt
      subst hc hdt
      obtain ⟨as, h4⟩ := Dp.readsAll I ds _ its ha rv
      have hmap : its.map (SeqAt.readOf s.heap) = ds := SeqAt.readsAll_map ds its as hxs h4
      refine call_meets PySem.F.slot_list_count ⟨_, ho, rfl⟩ PySem.F.entry_list_count (PySem.F.args_list_count_2 _ _)
        (SeqAt.list_countAt a its.toArray n dd sls uy (fun u => PyData.eqv (SeqAt.readOf s.heap u) d)) ⟨ho, SeqAt.items_eqAt (vs := its.toArray) (show ReadsAll s.heap its.toArray.toList ds as from h4) r1 hxs (SeqAt.canLay_of_shaped sd) hroom, ?_⟩
      have ec : its.toArray.toList.countP (fun u => PyData.eqv (SeqAt.readOf s.heap u) d) = ds.countP fun z => PyData.eqv z d := by
        rw [← hmap, List.countP_map]
        rfl
      refine ⟨.int ((ds.countP fun z => PyData.eqv z d : Nat) : Int), H, I.tok _, ⟨s.toks, ?_⟩, q⟩
      show Value.int ((its.toArray.toList.countP (fun u => PyData.eqv (SeqAt.readOf s.heap u) d) : Nat) : Int) s.toks = _
      rw [ec]
def dCount (zs : List D) (y : D) : Out D := if (gd 8 y && gd 8 (.lst zs)) = true then .ok (.int ((zs.countP fun z => eqv z y : Nat) : Int)) else .bad
theorem count_pyL (y : D) : ∀ zs : List D, ((D.pyL zs).countP fun z => PyData.eqv z y.py) = zs.countP fun z => eqv z y
  | [] => rfl
  | z :: zs => by
    have h := count_pyL y zs
    simp only [D.pyL, List.countP_cons, h]
    rfl
theorem e_count {k : Nat} {e : Expr} {apos cpos : Pos} (hr : Room k X.A) (ho : PEm X T E a ma) (he : PEm X T E e mb)
    (hbase : attributeBase a "count" X.env (eval a X.env) = eval a X.env := by rfl)
    (hfew : ((backTo cpos (starEach [e] X.env)).all (fun x => !x.1) && (backToKw cpos (keywordEach [] X.env)).all (fun x => x.1.isSome) && decide ([e].length + ([] : List Keyword).length + (if ([] : List Keyword).isEmpty then 0 else 1) < 30)) = true := by rfl)
    (hline : (apos.endLine == cpos.line) = true := by rfl) (hs : starEach [e] X.env = (false, eval e X.env) :: starEach [] X.env := by rfl) (hplain : (backTo cpos (starEach [] X.env)).any (·.1) = false := by rfl) :
    PEm X T E (.Call (.Attribute a "count" apos) [e] [] cpos) (mL dCount ma mb) :=
  weakE (pe_bm PySem.F.plainAttrs_list PySem.F.slot_list_count PySem.F.type_list_count (mt_countD (by have := hr.un; omega)) ho (pa_cons he pa_nil hs) hbase hfew hline hs hplain) fun σ H Q h => by
    obtain ⟨Γ, M, H0, r, f⟩ := h
    refine ⟨Γ, M, H0, r, Fin.bind f fun d v H1 M1 _ e1 r1 f1 => ?_⟩
    have rs := r.ext e1
    cases r1 with
    | @lst a vs zs ha ra =>
      refine ⟨.inl ⟨rfl, _, SqL.of (rs.ms _ _ ha)⟩, Γ, M1, H0, rs, Fin.bind f1 fun y w H2 M2 _ e2 r2 f2 => ?_⟩
      have rs2 := rs.ext e2
      unfold dCount at f2
      by_cases hf : (gd 8 y && gd 8 (.lst zs)) = true
      · rw [if_pos hf] at f2
        rw [Bool.and_eq_true] at hf
        have dl := Rp.dp (n := 8) rs2.ms (Rp.lst (mg := X.mg) (K := X.K) (e2.mm _ _ ha) (ra.mono e2.mm)) hf.2
        have sl := gd_shaped hf.2
        unfold D.py at dl sl
        refine ⟨a, w, y.py, D.pyL zs, rfl, rfl, dl, r2.dp rs2.ms hf.1, sl, gd_shaped hf.1, ?_⟩
        rw [count_pyL]
        exact f2 _ _ _ rs2.ext0 (.int _)
      · rw [if_neg hf] at f2
        exact f2.elim
    | _ => exact f1.elim
end FL
set_option Elab.async false
set_option linter.all false
set_option maxRecDepth 100000
set_option maxHeartbeats 4000000
/-! a slot that holds a dict of one's own; x.pop(); an own list compared; sorted of tuples -/
namespace FL
open PySem PySem.Spec PyProof.Rows L2 LamX
variable {X : Cx} {K : PySem.W.Frag} {mg : Str → Option Value} {T : Tb} {E : XK} {M M0 H H0 H1 : Hp} {Γ : Env} {σ : L2.St} {a b e : Expr} {ma mb : Env → Out D}
def getK (ks : List (L2.Key × D)) (k : L2.Key) : Option D := (ks.find? fun kv => decide (kv.1 = k)).map (·.2)
def setK (ks : List (L2.Key × D)) (k : L2.Key) (d : D) : List (L2.Key × D) :=
  if (ks.any fun kv => decide (kv.1 = k)) = true then ks.map (fun kv => if kv.1 = k then (kv.1, d) else kv) else ks ++ [(k, d)]
theorem getK_cons (p : L2.Key × D) (r : List (L2.Key × D)) (k : L2.Key) : getK (p :: r) k = if p.1 = k then some p.2 else getK r k := by
  unfold getK
  rw [List.find?_cons]
  by_cases h : p.1 = k
  · simp [h]
  · simp [h]
theorem RpK.val : ∀ {ws : List (L2.Key × V)} {ks : List (L2.Key × D)}, RpK K mg M ws ks → ∀ k, (getK ks k = none ∧ valV ws k = none) ∨ ∃ d v, getK ks k = some d ∧ valV ws k = some v ∧ Rp K mg M v d
  | _, _, .nil, k => .inl ⟨rfl, rfl⟩
  | _, _, @RpK.cons _ _ _ k' v d ws ks h r, k => by
    rw [getK_cons]
    by_cases e : k' = k
    · rw [if_pos e, valV_pos e]
      exact .inr ⟨d, v, rfl, rfl, h⟩
    · rw [if_neg e, valV_neg e]
      exact RpK.val r k
theorem RpK.any : ∀ {ws : List (L2.Key × V)} {ks : List (L2.Key × D)}, RpK K mg M ws ks → ∀ k, (ws.any fun kv => decide (kv.1 = k)) = ks.any fun kv => decide (kv.1 = k)
  | _, _, .nil, k => rfl
  | _, _, .cons h r, k => by rw [List.any_cons, List.any_cons, RpK.any r k]
theorem RpK.repl {v : V} {d : D} (h : Rp K mg M v d) (k : L2.Key) : ∀ {ws : List (L2.Key × V)} {ks : List (L2.Key × D)}, RpK K mg M ws ks → RpK K mg M (ws.map fun kv => if kv.1 = k then (kv.1, v) else kv) (ks.map fun kv => if kv.1 = k then (kv.1, d) else kv)
  | _, _, .nil => .nil
  | _, _, @RpK.cons _ _ _ k' v' d' ws ks h' r => by
    rw [List.map_cons, List.map_cons]
    by_cases e : k' = k
    · simp only [e, if_true]
      exact .cons h (RpK.repl h k r)
    · simp only [e, if_false]
      exact .cons h' (RpK.repl h k r)
theorem RpK.snoc {k : L2.Key} {v : V} {d : D} (h : Rp K mg M v d) : ∀ {ws : List (L2.Key × V)} {ks : List (L2.Key × D)}, RpK K mg M ws ks → RpK K mg M (ws ++ [(k, v)]) (ks ++ [(k, d)])
  | _, _, .nil => .cons h .nil
  | _, _, .cons h' r => .cons h' (RpK.snoc h r)
theorem RpK.put {k : L2.Key} {v : V} {d : D} {ws : List (L2.Key × V)} {ks : List (L2.Key × D)} (r : RpK K mg M ws ks) (h : Rp K mg M v d) : RpK K mg M (putK ws k v) (setK ks k d) := by
  unfold putK setK
  rw [r.any k]
  split
  · exact RpK.repl h k r
  · exact RpK.snoc h r
theorem RpK.length : ∀ {ws : List (L2.Key × V)} {ks : List (L2.Key × D)}, RpK K mg M ws ks → ws.length = ks.length
  | _, _, .nil => rfl
  | _, _, .cons _ r => by rw [List.length_cons, List.length_cons, RpK.length r]
def keyD : D → Option L2.Key
  | .int i => some (.inl i)
  | .str x => some (.inr x)
  | _ => none
theorem keyD_rp {v : V} {d : D} {k : L2.Key} (r : Rp K mg M v d) (h : keyD d = some k) : v = kV k := by
  cases r with
  | int i => cases h; rfl
  | str x => cases h; rfl
  | _ => cases h
def dctAt (Γ : Env) (i : Nat) : Option (List (L2.Key × D)) := match Γ[i]? with
  | some (some (.dct ks)) => some ks
  | _ => none
theorem dctAt_some {i : Nat} {ks : List (L2.Key × D)} (h : dctAt Γ i = some ks) : Γ[i]? = some (some (.dct ks)) := by
  unfold dctAt at h
  cases q : Γ[i]? with
  | none => rw [q] at h; cases h
  | some o =>
    rw [q] at h
    cases o with
    | none => cases h
    | some s =>
      cases s with
      | dct es => cases h; rfl
      | _ => cases h
/-! ### the heap -/
theorem tabs_updD {p : Addr} {vs ws : List (L2.Key × V)} (h : Tabs T H) (ha : H p = some (.dK vs)) : Tabs T (upd H p (.dK ws)) := fun q hq => by
  obtain ⟨ps, h1, h2, h3⟩ := h q hq
  refine ⟨ps, ?_, h2, fun pos cv hc => ?_⟩
  · rw [upd_ne (ne_of h1 ha (fun z => by cases z))]
    exact h1
  · obtain ⟨c, e, hc⟩ := h3 pos cv hc
    refine ⟨c, e, ?_⟩
    rw [upd_ne (ne_of hc ha (fun z => by unfold CodeO at z; cases z))]
    exact hc
theorem Ext.mutD {p : Addr} {vs ws : List (L2.Key × V)} (e : Ext T M0 H0 M H) (hm : M p = none) (ha : H p = some (.dK vs)) (hf : Fr H0 p) : Ext T M0 H0 M (upd H p (.dK ws)) where
  kp := fun b o hb ho => by
    by_cases q : b = p
    · subst q
      obtain ⟨ps, z⟩ := hf o hb
      subst z
      exact ho.elim
    · rw [upd_ne q]
      exact e.kp b o hb ho
  ke := fun b φ hb => by
    by_cases q : b = p
    · subst q
      obtain ⟨ps, z⟩ := hf _ hb
      cases z
    · rw [upd_ne q]
      exact e.ke b φ hb
  tb := fun h => tabs_updD (e.tb h) ha
  nm := e.nm
  mm := e.mm
  ms := fun b o hb => by
    have q : b ≠ p := fun z => by
      rw [z, hm] at hb
      cases hb
    rw [upd_ne q]
    exact e.ms b o hb
  nt := ⟨e.nt.kd, e.nt.pl.upd1 ha (fun _ z => by cases z) (fun _ _ z => by cases z) (fun _ z => by cases z)⟩
  nw := e.nw
theorem Rs.mutD (r : Rs K mg T H0 M H Γ σ) {i : Nat} {p : Addr} {ks ls : List (L2.Key × D)} {vs ws : List (L2.Key × V)} (hi : Γ[i]? = some (some (.dct ks))) (hs : σ[i]? = some (some (.ref p))) (ha : H p = some (.dK vs)) (hm : M p = none) (hf : Fr H0 p) (hw : RpK K mg M ws ls) :
    Rs K mg T H0 M (upd H p (.dK ws)) (Γ.set i (some (.dct ls))) σ :=
  r.chg (s := .dct ks) (s' := .dct ls) hi hs rfl ⟨r.nt.kd, r.nt.pl.upd1 ha (fun _ z => by cases z) (fun _ _ z => by cases z) (fun _ z => by cases z)⟩ (tabs_updD r.tb ha) ⟨p, ws, rfl, upd_same, hm, hf, hw⟩ fun b o => o
theorem Rs.newDct (r : Rs K mg T H0 M H Γ σ) (e : Ext T M0 H0 M H) (i : Nat) {p : Addr} (hp : H p = none) :
    Ext T M0 H0 M (upd H p (.dK [])) ∧ Rs K mg T H0 M (upd H p (.dK [])) (Γ.set i (some (.dct []))) (σ.set i (some (.ref p))) := by
  have g : Ext T M H M (upd H p (.dK [])) := Ext.grow r.ms r.nt (same_upd hp)
  have mp : M p = none := by
    cases q : M p with
    | none => rfl
    | some u =>
      have z := r.ms p u q
      rw [hp] at z
      cases z
  refine ⟨e.trans g, (r.ext g).put i (s := .dct []) ⟨p, [], rfl, upd_same, mp, e.fresh hp, .nil⟩ fun j t w a hj q1 q2 o1 o2 => ?_⟩
  have o1 : V.ref p = .ref a := o1
  cases o1
  obtain ⟨w', w1, w2⟩ := r.slt j t q1
  rw [q2] at w1
  cases w1
  exact r.no_new hp q1 q2 (o2.back g w2)
/-! ### rules -/
theorem Fin.imp {Q Q' : VK} (k : ∀ v H', Q v H' → Q' v H') {o : Out D} (h : Fin K mg T M H Q E o) : Fin K mg T M H Q' E o := by
  cases o with
  | ok d => exact fun v H' M' e r => k v H' (h v H' M' e r)
  | exc c => exact h
  | bad => exact h
def sDct (i : Nat) : Env → SO := fun Γ => .nx (Γ.set i (some (.dct [])))
theorem s_dct (i : Nat) {x : Str} {pos pos' dpos : Pos} (hN : X.N.Nodup) (hi : X.N[i]? = some x := by rfl) (hx : Loc X.env.scope x := by first | exact Or.inl rfl | exact Or.inr rfl) (hs : swapsWith (.Dict [] [] dpos) (some (.Name x pos')) pos.line X.env = pure false := by rfl)
    (hf : X.fn x = true ∨ X.env.scope.names.lookup x = some .local := by first | exact .inl rfl | exact .inr rfl) : PSm X T E (.Assign [.Name x pos'] (.Dict [] [] dpos) pos) (sDct i) :=
  weakS (ps_set hN hi hx pe_dnewK hs hf) fun Dn σ H h => by
    obtain ⟨Γ, M, M0, H0, e, r, f⟩ := h
    intro p hp
    obtain ⟨q1, q2⟩ := r.newDct e i hp
    exact f _ _ _ q1 q2
def mDct (i : Nat) (m : Env → Out D) (f : List (L2.Key × D) → L2.Key → Out D) : Env → Out D := fun Γ => match dctAt Γ i with
  | none => .bad
  | some ks => (m Γ).bind fun y => match keyD y with
    | none => .bad
    | some k => f ks k
def fGet (ks : List (L2.Key × D)) (k : L2.Key) : Out D := match getK ks k with
  | some d => .ok d
  | none => .bad
def fIn (ks : List (L2.Key × D)) (k : L2.Key) : Out D := .ok (.bl (getK ks k).isSome)
def fNotIn (ks : List (L2.Key × D)) (k : L2.Key) : Out D := .ok (.bl (!(getK ks k).isSome))
/-- what is told of a dict's slot -/
theorem dct_run {i : Nat} {m : Env → Out D} {f : List (L2.Key × D) → L2.Key → Out D} {Q : VK} (h : tOf K mg T E (mDct i m f) σ H Q) :
    ∃ p, σ[i]? = some (some (.ref p)) ∧ tOf K mg T E m σ H fun y H2 => ∃ ks ws k, y = kV k ∧ H2 p = some (.dK ws) ∧ ∃ M2, Same M2 H2 ∧ (NoT T M2 H2) ∧ RpK K mg M2 ws ks ∧ Fin K mg T M2 H2 Q E (f ks k) := by
  obtain ⟨Γ, M, H0, r, fn⟩ := h
  unfold mDct at fn
  cases q : dctAt Γ i with
  | none =>
    rw [q] at fn
    exact fn.elim
  | some ks =>
    rw [q] at fn
    have hq := dctAt_some q
    obtain ⟨p, ws, h1, h2, h3, h4, h5⟩ := r.dct i ks hq
    refine ⟨p, h1, Γ, M, H0, r, Fin.bind fn fun d v H1 M1 _ e1 r1 f1 => ?_⟩
    have r2 := r.ext e1
    obtain ⟨p', ws', k1, k2, k3, k4, k5⟩ := r2.dct i ks hq
    rw [h1] at k1
    cases k1
    cases hk : keyD d with
    | none =>
      rw [hk] at f1
      exact f1.elim
    | some k =>
      rw [hk] at f1
      exact ⟨ks, ws', k, keyD_rp r1 hk, k2, M1, r2.ms, r2.nt, k5, f1⟩
section
variable {x : Str} {pos pos' : Pos} {m : Env → Out D}
theorem tdget_of {i : Nat} {Q : VK} (h : tOf K mg T E (mDct i m fGet) σ H Q) : tDGet (tVar i) (tOf K mg T E m) σ H Q := by
  obtain ⟨p, hp, t⟩ := dct_run h
  refine ⟨.ref p, hp, ?_⟩
  obtain ⟨Γ, M, H0, r, fn⟩ := t
  refine ⟨Γ, M, H0, r, ?_⟩
  refine Fin.imp (fun y H2 hy => ?_) fn
  obtain ⟨ks, ws, k, rfl, e1, M2, ms, nt, rk, f2⟩ := hy
  rcases rk.val k with ⟨z1, z2⟩ | ⟨d, v, z1, z2, rv⟩
  · unfold fGet at f2
    rw [z1] at f2
    exact f2.elim
  · unfold fGet at f2
    rw [z1] at f2
    refine ⟨p, v, rfl, ?_, f2 _ _ _ (Ext.refl ms nt) rv⟩
    have := DGet.k (k := k) e1
    rw [z2] at this
    exact this
theorem e_dget {k : Nat} (i : Nat) (hr : Room k X.A) (hb : PEm X T E b m) (hs : NoSl b) (hN : X.N[i]? = some x := by rfl) (hv : Vis X.env.scope x := by first | exact Or.inl rfl | exact Or.inr (Or.inl rfl) | exact Or.inr (Or.inr rfl)) (hd : (x == ("__debug__" : Str)) = false := by decide)
    (hcd : (x == ("__classdict__" : Str)) = false := by decide) : PEm X T E (.Subscript (.Name x pos') b pos) (mDct i m fGet) :=
  weakE (pe_dget (by have := hr.un; omega) (pe_var hN hv hd hcd) hb hs) fun σ H Q h => tdget_of h
theorem tdin_of {i : Nat} {Q : VK} (h : tOf K mg T E (mDct i m fIn) σ H Q) : tDIn (tOf K mg T E m) (tVar i) σ H Q := by
  obtain ⟨p, hp, t⟩ := dct_run h
  obtain ⟨Γ, M, H0, r, fn⟩ := t
  refine ⟨Γ, M, H0, r, ?_⟩
  refine Fin.imp (fun y H2 hy => ?_) fn
  obtain ⟨ks, ws, k, rfl, e1, M2, ms, nt, rk, f2⟩ := hy
  refine ⟨.ref p, hp, p, valV ws k, rfl, DGet.k e1, ?_⟩
  have e : (valV ws k).isSome = (getK ks k).isSome := by
    rcases rk.val k with ⟨z1, z2⟩ | ⟨d, v, z1, z2, rv⟩ <;> rw [z1, z2] <;> rfl
  rw [e]
  exact f2 _ _ _ (Ext.refl ms nt) (.bl _)
theorem tdnotin_of {i : Nat} {Q : VK} (h : tOf K mg T E (mDct i m fNotIn) σ H Q) : tDNotIn (tOf K mg T E m) (tVar i) σ H Q := by
  obtain ⟨p, hp, t⟩ := dct_run h
  obtain ⟨Γ, M, H0, r, fn⟩ := t
  refine ⟨Γ, M, H0, r, ?_⟩
  refine Fin.imp (fun y H2 hy => ?_) fn
  obtain ⟨ks, ws, k, rfl, e1, M2, ms, nt, rk, f2⟩ := hy
  refine ⟨.ref p, hp, p, valV ws k, rfl, DGet.k e1, ?_⟩
  have e : (valV ws k).isSome = (getK ks k).isSome := by
    rcases rk.val k with ⟨z1, z2⟩ | ⟨d, v, z1, z2, rv⟩ <;> rw [z1, z2] <;> rfl
  rw [e]
  exact f2 _ _ _ (Ext.refl ms nt) (.bl _)
theorem e_din {k : Nat} (i : Nat) (hr : Room k X.A) (hb : PEm X T E b m) (hN : X.N[i]? = some x := by rfl) (hv : Vis X.env.scope x := by first | exact Or.inl rfl | exact Or.inr (Or.inl rfl) | exact Or.inr (Or.inr rfl)) (hd : (x == ("__debug__" : Str)) = false := by decide)
    (hcd : (x == ("__classdict__" : Str)) = false := by decide) (hm : behindInMarks .In (.Name x pos') = false := by rfl) : PEm X T E (.Compare b [.In] [.Name x pos'] pos) (mDct i m fIn) :=
  weakE (pe_cmp (pc_din (by have := hr.un; omega) hb (pe_var hN hv hd hcd)) hm) fun σ H Q h => tdin_of h
theorem t_din {k : Nat} (i : Nat) (hr : Room k X.A) (hb : PEm X T E b m) (hN : X.N[i]? = some x := by rfl) (hv : Vis X.env.scope x := by first | exact Or.inl rfl | exact Or.inr (Or.inl rfl) | exact Or.inr (Or.inr rfl)) (hd : (x == ("__debug__" : Str)) = false := by decide)
    (hcd : (x == ("__classdict__" : Str)) = false := by decide) (hm : behindInMarks .In (.Name x pos') = false := by rfl) : PTm X T E (.Compare b [.In] [.Name x pos'] pos) (mT (mDct i m fIn)) :=
  weakT (pt_cmp (pc_din (by have := hr.un; omega) hb (pe_var hN hv hd hcd)) hm) fun σ H Q h => tdin_of (tB_of h)
theorem t_dnotin {k : Nat} (i : Nat) (hr : Room k X.A) (hb : PEm X T E b m) (hN : X.N[i]? = some x := by rfl) (hv : Vis X.env.scope x := by first | exact Or.inl rfl | exact Or.inr (Or.inl rfl) | exact Or.inr (Or.inr rfl)) (hd : (x == ("__debug__" : Str)) = false := by decide)
    (hcd : (x == ("__classdict__" : Str)) = false := by decide) (hm : behindInMarks .NotIn (.Name x pos') = false := by rfl) : PTm X T E (.Compare b [.NotIn] [.Name x pos'] pos) (mT (mDct i m fNotIn)) :=
  weakT (pt_cmp (pc_dnotin (by have := hr.un; omega) hb (pe_var hN hv hd hcd)) hm) fun σ H Q h => tdnotin_of (tB_of h)
/-- x[b] = e -/
def sDSet (i : Nat) (mk mv : Env → Out D) : Env → SO := fun Γ => match dctAt Γ i with
  | none => .bad
  | some ks => SO.ofO (mv Γ) fun d => SO.ofO (mk Γ) fun y => match keyD y with
    | none => .bad
    | some k => if ks.length < LIM then .nx (Γ.set i (some (.dct (setK ks k d)))) else .bad
theorem s_dset {k : Nat} {mk mv : Env → Out D} {tpos : Pos} (i : Nat) (hr : Room k X.A) (hb : PEm X T E b mk) (he : PEm X T E e mv) (hN : X.N[i]? = some x := by rfl) (hv : Vis X.env.scope x := by first | exact Or.inl rfl | exact Or.inr (Or.inl rfl) | exact Or.inr (Or.inr rfl)) (hd : (x == ("__debug__" : Str)) = false := by decide)
    (hcd : (x == ("__classdict__" : Str)) = false := by decide) (hs : swapsWith e (some (.Subscript (.Name x pos') b tpos)) pos.line X.env = pure false := by rfl) : PSm X T E (.Assign [.Subscript (.Name x pos') b tpos] e pos) (sDSet i mk mv) :=
  weakS (ps_dput (by have := hr.un; omega) (pe_var hN hv hd hcd) hb he hs) fun Dn σ H h => by
    obtain ⟨Γ, M, M0, H0, e, r, f⟩ := h
    unfold sDSet at f
    cases q : dctAt Γ i with
    | none =>
      rw [q] at f
      exact f.elim
    | some ks =>
      rw [q] at f
      have hq := dctAt_some q
      refine ⟨Γ, M, H0, r, FinS.ofO e f fun d v H1 M1 e1 e2 r1 f1 => ?_⟩
      have ra := r.ext e2
      obtain ⟨p, ws, h1, h2, h3, h4, h5⟩ := ra.dct i ks hq
      refine ⟨.ref p, h1, Γ, M1, H0, ra, FinS.ofO e1 f1 fun y u H2 M2 e3 e4 r3 f2 => ?_⟩
      have rb := ra.ext e4
      obtain ⟨p', ws', k1, k2, k3, k4, k5⟩ := rb.dct i ks hq
      rw [h1] at k1
      cases k1
      cases hk : keyD y with
      | none =>
        rw [hk] at f2
        exact f2.elim
      | some k =>
        rw [hk] at f2
        by_cases hl : ks.length < LIM
        · have f2 : FinS _ _ _ _ _ _ _ (if ks.length < LIM then SO.nx (Γ.set i (some (.dct (setK ks k d)))) else .bad) := f2
          rw [if_pos hl] at f2
          rw [keyD_rp r3 hk]
          refine ⟨p, _, rfl, DPut.k k2 (by rw [k5.length, sizeLine_eq]; exact hl), f2 _ _ _ (e3.mutD k3 k2 k4) (rb.mutD hq h1 k2 k3 k4 (k5.put (r1.mono e4.mm)))⟩
        · have f2 : FinS _ _ _ _ _ _ _ (if ks.length < LIM then SO.nx (Γ.set i (some (.dct (setK ks k d)))) else .bad) := f2
          rw [if_neg hl] at f2
          exact f2.elim
/-- y = x.pop() -/
def sPop (j i : Nat) : Env → SO := fun Γ => match ownAt Γ i with
  | none => .bad
  | some ds => match ds[ds.length - 1]? with
    | none => .bad
    | some d => .nx ((Γ.set i (some (.own ds.dropLast))).set j (some (.dat d)))
theorem RpL.dropLast : ∀ {vs : List V} {ds : List D}, RpL K mg M vs ds → RpL K mg M vs.dropLast ds.dropLast
  | _, _, .nil => .nil
  | _, _, .cons h .nil => .nil
  | _, _, .cons h (.cons h2 r) => .cons h (RpL.dropLast (.cons h2 r))
theorem s_pop {y : Str} {apos cpos ypos : Pos} (j i : Nat) (nd : X.N.Nodup) (hj : X.N[j]? = some y := by rfl) (hjx : Loc X.env.scope y := by first | exact Or.inl rfl | exact Or.inr rfl) (hN : X.N[i]? = some x := by rfl) (hv : Vis X.env.scope x := by first | exact Or.inl rfl | exact Or.inr (Or.inl rfl) | exact Or.inr (Or.inr rfl)) (hd : (x == ("__debug__" : Str)) = false := by decide)
    (hcd : (x == ("__classdict__" : Str)) = false := by decide) (hbase : attributeBase (.Name x pos') "pop" X.env (eval (.Name x pos') X.env) = eval (.Name x pos') X.env := by rfl) (hline : (apos.endLine == cpos.line) = true := by rfl)
    (hs : swapsWith (.Call (.Attribute (.Name x pos') "pop" apos) [] [] cpos) (some (.Name y ypos)) pos.line X.env = pure false := by rfl) (hf : X.fn y = true ∨ X.env.scope.names.lookup y = some .local := by first | exact .inl rfl | exact .inr rfl) :
    PSm X T E (.Assign [.Name y ypos] (.Call (.Attribute (.Name x pos') "pop" apos) [] [] cpos) pos) (sPop j i) :=
  weakS (ps_set nd hj hjx (pe_bm0 PySem.F.plainAttrs_list PySem.F.slot_list_pop PySem.F.type_list_pop mt_pop (pe_var hN hv hd hcd) hbase hline) hs hf) fun Dn σ H h => by
    obtain ⟨Γ, M, M0, H0, e, r, f⟩ := h
    unfold sPop at f
    cases q : ownAt Γ i with
    | none =>
      rw [q] at f
      exact f.elim
    | some ds =>
      rw [q] at f
      have hq := ownAt_some q
      obtain ⟨a, vs, h1, h2, h3, h4, h5⟩ := r.own i ds hq
      dsimp only at f
      cases hl : ds[ds.length - 1]? with
      | none =>
        rw [hl] at f
        exact f.elim
      | some d =>
        rw [hl] at f
        obtain ⟨v, k1, k2⟩ := h5.get hl
        refine ⟨.ref a, h1, .inl ⟨rfl, vs, SqL.of h2⟩, a, vs, v, rfl, rfl, h2, by rw [h5.length]; exact k1, ?_⟩
        have r2 := r.mut hq h1 h2 h3 h4 h5.dropLast
        exact f _ _ _ (e.mut h3 h2 h4) (r2.set j k2)
/-- an own list compared with data -/
def mONe (i : Nat) (m : Env → Out D) : Env → Out D := fun Γ => match ownAt Γ i with
  | some ds => (m Γ).bind (dNe (.lst ds))
  | none => .bad
theorem tone_of {i : Nat} {Q : VK} (h : tOf K mg T E (mONe i m) σ H Q) : tOp (rNeD K) (tVar i) (tOf K mg T E m) σ H Q := by
  obtain ⟨Γ, M, H0, r, f⟩ := h
  unfold mONe at f
  cases q : ownAt Γ i with
  | none =>
    rw [q] at f
    exact f.elim
  | some ds =>
    rw [q] at f
    have hq := ownAt_some q
    obtain ⟨a, vs, h1, h2, h3, h4, h5⟩ := r.own i ds hq
    refine ⟨.ref a, h1, Γ, M, H0, r, Fin.bind f fun d v H1 M1 _ e1 r1 f1 => ?_⟩
    have rs := r.ext e1
    obtain ⟨a', vs', k1, k2, k3, k4, k5⟩ := rs.own i ds hq
    rw [h1] at k1
    cases k1
    have mm : Same M1 (upd M1 a (.lst vs')) := same_upd k3
    have ms : Same (upd M1 a (.lst vs')) H1 := fun b o hb => by
      by_cases q : b = a
      · subst q
        rw [upd_same] at hb
        rw [← hb]
        exact k2
      · rw [upd_ne q] at hb
        exact rs.ms b o hb
    cases hz : dNe (.lst ds) d with
    | bad =>
      rw [hz] at f1
      exact f1.elim
    | exc c => exact absurd hz (nx_ne _ _ c)
    | ok z =>
      rw [hz] at f1
      obtain ⟨g1, g2, rfl⟩ := dNe_ok hz
      exact ⟨_, _, Rp.dp (n := 8) ms (Rp.lst (mg := mg) (K := K) upd_same (k5.mono mm)) g1, r1.dp rs.ms g2, gd_shaped g1, gd_shaped g2, f1 _ _ _ rs.ext0 (.bl _)⟩
theorem t_one {k : Nat} (i : Nat) (hr : Room k X.A) (hb : PEm X T E b m) (hN : X.N[i]? = some x := by rfl) (hv : Vis X.env.scope x := by first | exact Or.inl rfl | exact Or.inr (Or.inl rfl) | exact Or.inr (Or.inr rfl)) (hd : (x == ("__debug__" : Str)) = false := by decide)
    (hcd : (x == ("__classdict__" : Str)) = false := by decide) (hm : behindInMarks .NotEq b = false := by rfl) : PTm X T E (.Compare (.Name x pos') [.NotEq] [b] pos) (mT (mONe i m)) :=
  weakT (pt_cmpR (op_neD hr.units) (pe_var hN hv hd hcd) hb hm) fun σ H Q h => tone_of (tB_of h)
end
end FL
set_option Elab.async false
set_option linter.all false
set_option maxRecDepth 100000
set_option maxHeartbeats 4000000
/-! sorted of a list of tuples of whole numbers, all of one length -/
namespace FL
open PySem PySem.Spec PyProof.Rows L2 LamX
variable {X : Cx} {K : PySem.W.Frag} {mg : Str → Option Value} {T : Tb} {E : XK} {M M0 H H0 H1 : Hp}
def CB : Int := 1099511627776
def toWs : List D → Option (List (List Int))
  | [] => some []
  | .tup xs :: r => match toInts xs, toWs r with
    | some w, some ws => some (w :: ws)
    | _, _ => none
  | _ => none
def srtW (ws : List (List Int)) : List (List Int) := ws.mergeSort (fun a b => decide (TS.code CB a ≤ TS.code CB b))
theorem srtW_perm (ws : List (List Int)) : (srtW ws).Perm ws := List.mergeSort_perm _ _
theorem pw_by {α : Type} (f : α → Int) (ws : List α) : (ws.mergeSort (fun a b => decide (f a ≤ f b))).Pairwise (fun a b => f a ≤ f b) := by
  have := List.pairwise_mergeSort (le := fun a b : α => decide (f a ≤ f b)) (by intro a b c; simp; omega) (by intro a b; simp; omega) ws
  exact this.imp fun h => of_decide_eq_true h
theorem srtW_sorted (ws : List (List Int)) : (srtW ws).Pairwise (fun a b => TS.code CB a ≤ TS.code CB b) := pw_by (TS.code CB) ws
def okWs (d : Nat) (ws : List (List Int)) : Bool := decide (1 ≤ d) && ws.all fun v => decide (v.length = d) && v.all fun x => decide (0 ≤ x) && decide (x < CB)
def sortWL (ds : List D) : Out D := if ds.length ≤ 1 then .ok (.lst ds) else match toWs ds with
    | some ws => if (decide (ws.length < 64) && okWs (ws.getD 0 []).length ws) = true then .ok (.lst ((srtW ws).map fun w => .tup (w.map D.int))) else .bad
    | none => .bad
def dSortW : D → Out D
  | .lst ds => sortWL ds
  | _ => .bad
theorem nx_sortW : noX1 dSortW := fun d c h => by
  cases d with
  | lst ds =>
    have h : sortWL ds = .exc c := h
    unfold sortWL at h
    by_cases h1 : ds.length ≤ 1
    · rw [if_pos h1] at h
      exact nomatch h
    · rw [if_neg h1] at h
      cases h2 : toWs ds with
      | none => rw [h2] at h; exact nomatch h
      | some ws =>
        rw [h2] at h
        dsimp only at h
        by_cases h3 : (decide (ws.length < 64) && okWs (ws.getD 0 []).length ws) = true
        · rw [if_pos h3] at h
          exact nomatch h
        · rw [if_neg h3] at h
          exact nomatch h
  | _ => exact nomatch h
theorem code_inj {B : Int} : ∀ {a b : List Int}, a.length = b.length → TS.Bd B a → TS.Bd B b → TS.code B a = TS.code B b → a = b
  | [], [], _, _, _, _ => rfl
  | x :: a, y :: b, hl, ha, hb, h => by
    have hl2 : a.length = b.length := by simpa using hl
    have hxy : x = y := by
      rcases Int.lt_trichotomy x y with e | e | e
      · have h2 := TS.code_lt hl2 ha.tail hb.tail e
        rw [h] at h2
        exact absurd h2 (Int.lt_irrefl _)
      · exact e
      · have h2 := TS.code_lt hl2.symm hb.tail ha.tail e
        rw [h] at h2
        exact absurd h2 (Int.lt_irrefl _)
    subst hxy
    have h1 : TS.code B a = TS.code B b := by
      rcases Int.lt_trichotomy (TS.code B a) (TS.code B b) with e | e | e
      · have h2 := (TS.code_same (d := x) hl2).mpr e
        rw [h] at h2
        exact absurd h2 (Int.lt_irrefl _)
      · exact e
      · have h2 := (TS.code_same (d := x) hl2.symm).mpr e
        rw [h] at h2
        exact absurd h2 (Int.lt_irrefl _)
    rw [code_inj hl2 ha.tail hb.tail h1]
section
variable (K : PySem.W.Frag) (M : Hp)
inductive WR : List V → List (List Int) → Prop
  | nil : WR [] []
  | cons {t : Addr} {w : List Int} {vs : List V} {ws : List (List Int)} : SqT K M t (w.map V.int) → WR vs ws → WR (.ref t :: vs) (w :: ws)
end
theorem toWs_rp : ∀ {vs : List V} {ds : List D} {ws : List (List Int)}, RpL K mg M vs ds → toWs ds = some ws → WR K M vs ws
  | _, _, _, .nil, h => by cases h; exact .nil
  | _, _, ws, .cons (v := v) (d := d) (vs := vs) (ds := ds) h r, e => by
    cases h with
    | tup ha ra =>
      rename_i a us xs
      unfold toWs at e
      cases h1 : toInts xs with
      | none => rw [h1] at e; cases e
      | some w =>
        cases h2 : toWs ds with
        | none => rw [h1, h2] at e; cases e
        | some ws' =>
          rw [h1, h2] at e
          cases e
          rw [toInts_rp ra h1] at ha
          exact .cons ha (toWs_rp r h2)
    | _ => cases e
theorem WR.perm {vs ys : List V} (p : ys.Perm vs) : ∀ {ws : List (List Int)}, WR K M vs ws → ∃ us, WR K M ys us ∧ us.Perm ws := by
  induction p with
  | nil => exact fun h => ⟨_, h, List.Perm.refl _⟩
  | cons x _ ih =>
    intro ws h
    cases h with
    | cons h r =>
      obtain ⟨us, h1, h2⟩ := ih r
      exact ⟨_, .cons h h1, h2.cons _⟩
  | swap x y l =>
    intro ws h
    cases h with
    | cons h r =>
      cases r with
      | cons h2 r => exact ⟨_, .cons h2 (.cons h r), List.Perm.swap _ _ _⟩
  | trans _ _ ih1 ih2 =>
    intro ws h
    obtain ⟨us, h1, h2⟩ := ih2 h
    obtain ⟨us', h3, h4⟩ := ih1 h1
    exact ⟨us', h3, h4.trans h2⟩
theorem WR.mem : ∀ {vs : List V} {ws : List (List Int)}, WR K M vs ws → ∀ x ∈ vs, ∃ t w, x = .ref t ∧ SqT K M t (w.map V.int) ∧ w ∈ ws
  | _, _, .nil, x, hx => by cases hx
  | _, _, .cons h r, x, hx => by
    rcases List.mem_cons.mp hx with e | hx
    · exact ⟨_, _, e, h, List.mem_cons_self⟩
    · obtain ⟨t, w, h1, h2, h3⟩ := WR.mem r x hx
      exact ⟨t, w, h1, h2, List.mem_cons_of_mem _ h3⟩
theorem WR.memW : ∀ {vs : List V} {ws : List (List Int)}, WR K M vs ws → ∀ w ∈ ws, ∃ t, V.ref t ∈ vs ∧ SqT K M t (w.map V.int)
  | _, _, .nil, x, hx => by cases hx
  | _, _, .cons h r, x, hx => by
    rcases List.mem_cons.mp hx with e | hx
    · subst e
      exact ⟨_, List.mem_cons_self, h⟩
    · obtain ⟨t, h1, h2⟩ := WR.memW r x hx
      exact ⟨t, List.mem_cons_of_mem _ h1, h2⟩
theorem WR.pw {R : V → V → Prop} {S : List Int → List Int → Prop} (hRS : ∀ t u a b, SqT K M t (a.map V.int) → SqT K M u (b.map V.int) → R (.ref t) (.ref u) → S a b) : ∀ {vs : List V} {ws : List (List Int)}, WR K M vs ws → vs.Pairwise R → ws.Pairwise S
  | _, _, .nil, _ => .nil
  | _, _, .cons h r, p => by
    rw [List.pairwise_cons] at p
    refine List.pairwise_cons.mpr ⟨fun b hb => ?_, WR.pw hRS r p.2⟩
    obtain ⟨t, h1, h2⟩ := r.memW b hb
    exact hRS _ _ _ _ h h2 (p.1 _ h1)
theorem WR.rpL : ∀ {vs : List V} {ws : List (List Int)}, WR K M vs ws → RpL K mg M vs (ws.map fun w => .tup (w.map D.int))
  | _, _, .nil => .nil
  | _, _, .cons h r => .cons (.tup h (rpL_ints _)) (WR.rpL r)
theorem WR.length : ∀ {vs : List V} {ws : List (List Int)}, WR K M vs ws → vs.length = ws.length
  | _, _, .nil => rfl
  | _, _, .cons h r => by rw [List.length_cons, List.length_cons, WR.length r]
theorem rev_ix {h : V} {vs : List V} : (h :: vs).length ≤ 1 → vs = [] := fun z => by
  cases vs with
  | nil => rfl
  | cons a b => simp at z
theorem perm_short {α : Type} : ∀ {l m : List α}, m.Perm l → l.length ≤ 1 → m = l
  | [], m, h, _ => h.eq_nil
  | [x], m, h, _ => List.perm_singleton.mp h
  | x :: y :: l, m, h, hl => by simp at hl
/-- sorted of a list of one thing or none -/
def rSort1 (K : PySem.W.Frag) : List V → Hp → VK → Prop := fun vs H Q => ∃ a xs, vs = [V.ref a] ∧ SqL K H a xs ∧ xs.length ≤ 1 ∧ ∀ p, H p = none → Q (.ref p) (upd H p (.lst xs))
theorem cr_sort1 : CallR X (.builtin "sorted") (rSort1 X.K) := by
  intro pins s σ H vs us Q I r h
  obtain ⟨a, xs, rfl, hs, hx, q⟩ := h
  obtain ⟨its, rv, hl, hz⟩ := I.list hs
  obtain ⟨u, rfl, ru⟩ := vals1 r
  obtain rfl : u = Value.ref a := ru
  have hi : its.length ≤ 1 := by rw [← rv.length]; exact hx
  refine Srt.sorted_any hl.isList (by rw [sizeLine_eq]; omega) (fun h2 => absurd h2 (by omega)) fun out ho => ?_
  have eo : out = its := perm_short ho hi
  subst eo
  obtain ⟨ep, he'⟩ := PyProof.Rows.sortedAll_at s.heap out out.toArray
  exact ⟨.ref _, upd H (s.heap.objs.size + 1) (.lst xs), I.laid (t' := s.toks) (fun _ _ => PyProof.Rows.sortedAll_old) (Nat.le_succ _) ⟨hz, out, ep, rv, he'⟩, rfl, q _ (I.hok.fresh (Nat.le_succ _))⟩
def rSortW (K : PySem.W.Frag) : List V → Hp → VK → Prop := fun vs H Q => rSort1 K vs H Q ∨ ∃ d : Nat, 1 ≤ d ∧ rSortU K d CB vs H Q
theorem cr_sortW : CallR X (.builtin "sorted") (rSortW X.K) := by
  intro pins s σ H vs us Q I r h
  rcases h with h | ⟨d, hd, h⟩
  · exact cr_sort1 pins s σ H vs us Q I r h
  · exact cr_sortT hd pins s σ H vs us Q I r h
theorem sqT_inj {t : Addr} {a b : List Int} (h1 : SqT K M t (a.map V.int)) (h2 : SqT K M t (b.map V.int)) : True := trivial
theorem cd_sortW : CallD K mg T (rSortW K) (c1 dSortW) := cd_1 fun x dx M H Q d s nt rx hf q => by
  cases rx with
  | @lst a vs ds ha ra =>
    have hf : sortWL ds = .ok d := hf
    unfold sortWL at hf
    by_cases h1 : ds.length ≤ 1
    · rw [if_pos h1] at hf
      cases hf
      refine .inl ⟨a, vs, rfl, SqL.of (s _ _ ha), by rw [ra.length]; exact h1, fun p hp => ?_⟩
      obtain ⟨M', e, rr⟩ := newLst (K := K) (mg := mg) (T := T) hp s nt ra
      exact q _ _ _ e rr
    · rw [if_neg h1] at hf
      cases hw : toWs ds with
      | none => rw [hw] at hf; cases hf
      | some ws =>
        rw [hw] at hf
        dsimp only at hf
        by_cases ho : (decide (ws.length < 64) && okWs (ws.getD 0 []).length ws) = true
        · rw [if_pos ho] at hf
          cases hf
          rw [Bool.and_eq_true, decide_eq_true_iff] at ho
          obtain ⟨h64, hok⟩ := ho
          unfold okWs at hok
          rw [Bool.and_eq_true, decide_eq_true_iff, List.all_eq_true] at hok
          obtain ⟨hd1, hall⟩ := hok
          have hbd : ∀ w ∈ ws, w.length = (ws.getD 0 []).length ∧ TS.Bd CB w := fun w hw => by
            have := hall w hw
            rw [Bool.and_eq_true, decide_eq_true_iff, List.all_eq_true] at this
            refine ⟨this.1, fun m hm => ?_⟩
            have := this.2 m hm
            rw [Bool.and_eq_true, decide_eq_true_iff, decide_eq_true_iff] at this
            exact this
          have wr := toWs_rp ra hw
          refine .inr ⟨_, hd1, a, vs, rfl, SqL.of (s _ _ ha), by rw [wr.length]; exact h64, fun x hx => ?_, fun ys p hp hpw hn => ?_⟩
          · obtain ⟨t, w, e1, e2, e3⟩ := wr.mem x hx
            exact ⟨w, ⟨t, e1, same_sqT s e2⟩, hbd w e3⟩
          · obtain ⟨us, w1, w2⟩ := wr.perm hp
            have spw : us.Pairwise (fun a b => TS.code CB a ≤ TS.code CB b) := WR.pw (fun t u a b ha hb h => h a b ⟨t, rfl, same_sqT s ha⟩ ⟨u, rfl, same_sqT s hb⟩) w1 hpw
            have e : us = srtW ws := List.Perm.eq_of_pairwise (fun a b ma mb h1 h2 => by
              have m1 := hbd a (w2.mem_iff.mp ma)
              have m2 := hbd b ((srtW_perm ws).mem_iff.mp mb)
              exact code_inj (m1.1.trans m2.1.symm) m1.2 m2.2 (Int.le_antisymm h1 h2)) spw (srtW_sorted ws) (w2.trans (srtW_perm ws).symm)
            subst e
            obtain ⟨M', e, rr⟩ := newLst (K := K) (mg := mg) (T := T) hn s nt (w1.rpL (mg := mg))
            exact q _ _ _ e rr
        · rw [if_neg ho] at hf
          cases hf
  | _ => cases hf
theorem b_sortW (hm : X.mg "sorted" = none) : Bt X T "sorted" (c1 dSortW) := .fn cr_sortW cd_sortW (nx_c1 nx_sortW) hm (by decide +kernel) (by decide) (by decide)
theorem toWs_map : ∀ ws : List (List Int), toWs (ws.map fun w => D.tup (w.map D.int)) = some ws
  | [] => rfl
  | w :: ws => by
    rw [List.map_cons]
    unfold toWs
    rw [toInts_map, toWs_map ws]
end FL
set_option Elab.async false
set_option linter.all false
set_option maxRecDepth 100000
set_option maxHeartbeats 4000000
/-! dicts whose keys are tuples of whole numbers and None: at the machine's level, by the heap's words -/
namespace FL
open PySem PySem.Spec PyProof.Rows L2 LamX
variable {X : Cx} {pins : List (Addr × Obj)} {σ : L2.St} {H : Hp} {s : Shared} {a b : Addr} {A : Around} {E' : Value → Shared → Prop}
theorem items_leaf {P : Program} {w : World} : ∀ {p : Part} {us : List Value}, Vals (p.map leafV) us → ItemsAre (leafKind P w) (keyL p) us
  | [], _, h => by cases h; exact .nil
  | none :: p, _, h => by
    cases h with
    | cons r t =>
      cases r
      exact .cons leaf_none (items_leaf t)
  | some i :: p, _, h => by
    cases h with
    | cons r t =>
      obtain ⟨tk, rfl⟩ := r
      exact .cons (leaf_int i tk) (items_leaf t)
theorem key_at {p : Part} (I : Inv X pins σ H s) (h : SqT X.K H b (p.map leafV)) : (tupleKind (leafKind X.prog X.w)).is s.heap (keyL p) b := by
  obtain ⟨its, rv, ⟨o, ho, hc, n, hd⟩, hz⟩ := I.tuple h
  exact ⟨o, its.toArray, n, ho, hc, hd, by simpa using items_leaf rv⟩
abbrev kx (xs : List (Part × Addr × Value)) : List (List Leaf × Addr × Value) := xs.map fun x => (keyL x.1, x.2)
theorem dic_at {xs : List (Part × Addr × Value)} (I : Inv X pins σ H s) (h : Rd H a (DicO a xs)) (hk : ∀ x ∈ xs, SqT X.K H x.2.1 (x.1.map leafV)) :
    (a == sysModules) = false ∧ xs.length ≤ sizeLine ∧ s.heap.DictOfH (tupleKind (leafKind X.prog X.w)) a (kx xs) := by
  have ok : ObjOk X.prog X.w H s.heap a (DicO a xs) := h.ok I.hok
  obtain ⟨⟨h1, h2, o, es, ep, q1, q2, q3, q4, q5⟩, _, _⟩ := ok
  refine ⟨h1, h2, o, es, ep, q1, q2, q3, q4.trans (entries_eq xs).symm, fun x hx => ?_, ?_⟩
  · obtain ⟨y, hy, rfl⟩ := List.mem_map.mp hx
    exact key_at I (hk y hy)
  · rw [List.map_map]
    have e : ((fun x : List Leaf × Addr × Value => x.1) ∘ fun x : Part × Addr × Value => (keyL x.1, x.2)) = fun x => keyL x.1 := rfl
    rw [e]
    rw [show (xs.map fun x => keyL x.1) = (xs.map (·.1)).map keyL by rw [List.map_map]; rfl]
    exact List.Pairwise.map keyL (fun p q hpq z => hpq (keyL_inj z)) q5
/-- what stands at a row -/
def atP (xs : List (Part × Addr × Value)) (p : Part) : Option (Addr × Value) := (xs.find? fun x => decide (x.1 = p)).map (·.2)
theorem atKey_kx (p : Part) : ∀ xs : List (Part × Addr × Value), atKey (kx xs) (keyL p) = atP xs p
  | [] => rfl
  | x :: xs => by
    have ih := atKey_kx p xs
    unfold atKey atP at ih ⊢
    rw [show kx (x :: xs) = (keyL x.1, x.2) :: kx xs from rfl, List.find?_cons, List.find?_cons]
    by_cases h : x.1 = p
    · rw [decide_eq_true (show keyL x.1 = keyL p by rw [h]), decide_eq_true h]
      rfl
    · rw [decide_eq_false (fun z => h (keyL_inj z)), decide_eq_false h]
      exact ih
theorem atP_mem {xs : List (Part × Addr × Value)} {p : Part} {q : Addr × Value} (h : atP xs p = some q) : (p, q) ∈ xs := by
  unfold atP at h
  obtain ⟨x, hx, rfl⟩ := Option.map_eq_some_iff.mp h
  have h1 := List.find?_some hx
  have h2 := List.mem_of_find?_eq_some hx
  rw [decide_eq_true_iff] at h1
  rw [← h1]
  exact h2
def putP (p : Part) (b : Addr) (v : Value) (xs : List (Part × Addr × Value)) : List (Part × Addr × Value) := if (atP xs p).isSome then xs.map (fun x => if x.1 = p then (x.1, x.2.1, v) else x) else xs ++ [(p, b, v)]
theorem stored_kx (p : Part) (b : Addr) (v : Value) (xs : List (Part × Addr × Value)) : storedH (kx xs) (keyL p) b v = kx (putP p b v xs) := by
  unfold storedH putP
  rw [atKey_kx]
  by_cases h : (atP xs p).isSome = true
  · rw [if_pos h, if_pos h]
    unfold kx
    rw [List.map_map, List.map_map]
    refine List.map_congr_left fun x _ => ?_
    show putAt (keyL p) v (keyL x.1, x.2) = _
    unfold putAt
    by_cases e : x.1 = p
    · simp [Function.comp, e]
    · have e2 : keyL x.1 ≠ keyL p := fun z => e (keyL_inj z)
      simp [Function.comp, e, e2]
  · rw [if_neg h, if_neg h]
    unfold kx
    rw [List.map_append]
    rfl
theorem putP_mem {p : Part} {b : Addr} {v : Value} {xs : List (Part × Addr × Value)} {x : Part × Addr × Value} (h : x ∈ putP p b v xs) : x ∈ xs ∨ x = (p, b, v) ∨ (x.1 = p ∧ x.2.2 = v ∧ ∃ y ∈ xs, y.1 = p ∧ y.2.1 = x.2.1) := by
  unfold putP at h
  by_cases hs : (atP xs p).isSome = true
  · rw [if_pos hs] at h
    obtain ⟨y, hy, rfl⟩ := List.mem_map.mp h
    by_cases e : y.1 = p
    · rw [if_pos e]
      exact .inr (.inr ⟨e, rfl, y, hy, e, rfl⟩)
    · rw [if_neg e]
      exact .inl hy
  · rw [if_neg hs] at h
    rcases List.mem_append.mp h with h | h
    · exact .inl h
    · rw [List.mem_singleton] at h
      exact .inr (.inl h)
theorem putP_len (p : Part) (b : Addr) (v : Value) (xs : List (Part × Addr × Value)) : (putP p b v xs).length ≤ xs.length + 1 := by
  unfold putP
  split
  · rw [List.length_map]; omega
  · rw [List.length_append, List.length_singleton]; exact Nat.le_refl _
theorem putP_at (p : Part) (b : Addr) (v : Value) (xs : List (Part × Addr × Value)) : ((atP (putP p b v xs) p).map (·.2)) = some v := by
  have app : ∀ xs : List (Part × Addr × Value), (atP xs p).isSome = false → atP (xs ++ [(p, b, v)]) p = some (b, v) := by
    intro xs
    induction xs with
    | nil => intro _; simp [atP]
    | cons x xs ih =>
      intro h
      unfold atP at h ih ⊢
      rw [List.find?_cons] at h
      by_cases e : x.1 = p
      · simp [e] at h
      · rw [decide_eq_false e] at h
        rw [List.cons_append, List.find?_cons, decide_eq_false e]
        exact ih h
  have rep : ∀ xs : List (Part × Addr × Value), (atP xs p).isSome = true → (atP (xs.map (fun x => if x.1 = p then (x.1, x.2.1, v) else x)) p).map (·.2) = some v := by
    intro xs
    induction xs with
    | nil => intro h; simp [atP] at h
    | cons x xs ih =>
      intro h
      unfold atP at h ih ⊢
      rw [List.find?_cons] at h
      rw [List.map_cons, List.find?_cons]
      by_cases e : x.1 = p
      · simp [e]
      · rw [decide_eq_false e] at h
        simp only [e, if_false, decide_false]
        exact ih h
  unfold putP
  by_cases hs : (atP xs p).isSome = true
  · rw [if_pos hs]
    exact rep xs hs
  · rw [if_neg hs, app xs (by simpa using hs)]
    rfl
/-! the three looks, the store -/
theorem dic_notIn {xs : List (Part × Addr × Value)} {p : Part} {Q : Value → Shared → Prop} (hu : A.units + 1 < cLine) (I : Inv X pins σ H s) (h : Rd H a (DicO a xs)) (hk : ∀ x ∈ xs, SqT X.K H x.2.1 (x.1.map leafV)) (hb : SqT X.K H b (p.map leafV)) (q : ∀ s', Inv X pins σ H s' → Q (.bool (!(atP xs p).isSome)) s') :
    wpAny (model X.prog X.w) A (compareOp .NotIn (.ref b) (.ref a)) Q E' s := by
  obtain ⟨h1, h2, dd⟩ := dic_at I h hk
  refine wpAny_notIn_heap (tupleKind_room_in1 hu) (key_at I hb) h1 dd ?_
  rw [atKey_kx]
  exact q _ (I.tok _)
theorem dic_in {xs : List (Part × Addr × Value)} {p : Part} {Q : Value → Shared → Prop} (hu : A.units + 1 < cLine) (I : Inv X pins σ H s) (h : Rd H a (DicO a xs)) (hk : ∀ x ∈ xs, SqT X.K H x.2.1 (x.1.map leafV)) (hb : SqT X.K H b (p.map leafV)) (q : ∀ s', Inv X pins σ H s' → Q (.bool (atP xs p).isSome) s') :
    wpAny (model X.prog X.w) A (compareOp .In (.ref b) (.ref a)) Q E' s := by
  obtain ⟨h1, h2, dd⟩ := dic_at I h hk
  refine wpAny_in_heap (tupleKind_room_in1 hu) (key_at I hb) h1 dd ?_
  rw [atKey_kx]
  exact q _ (I.tok _)
theorem dic_get {xs : List (Part × Addr × Value)} {p : Part} {y : Addr × Value} {Q : Value → Shared → Prop} (hu : A.units + 1 < cLine) (I : Inv X pins σ H s) (h : Rd H a (DicO a xs)) (hk : ∀ x ∈ xs, SqT X.K H x.2.1 (x.1.map leafV)) (hb : SqT X.K H b (p.map leafV)) (hy : atP xs p = some y) (q : ∀ s', Inv X pins σ H s' → Q y.2 s') :
    wpAny (model X.prog X.w) A (getItem (.ref a) (.ref b)) Q E' s := by
  obtain ⟨h1, h2, dd⟩ := dic_at I h hk
  exact wpAny_getItem_heap (tupleKind_room_in1 hu) (key_at I hb) dd (by rw [atKey_kx]; exact hy) (q _ (I.tok _))
theorem dic_set {xs : List (Part × Addr × Value)} {p : Part} {v : Value} {Q : Unit → Shared → Prop} (hu : A.units + 1 < cLine) (I : Inv X pins σ H s) (h : H a = some (DicO a xs)) (hk : ∀ x ∈ xs, SqT X.K H x.2.1 (x.1.map leafV)) (hb : SqT X.K H b (p.map leafV)) (hl : xs.length < sizeLine) (q : ∀ s', Inv X pins σ (upd H a (DicO a (putP p b v xs))) s' → Q () s') :
    wpAny (model X.prog X.w) A (setItem (.ref a) (.ref b) v) Q E' s := by
  obtain ⟨h1, h2, dd⟩ := dic_at I (.inl h) hk
  refine wpAny_setItem_heap (hsz := by rw [List.length_map]; exact h2) (tupleKind_room_in1 hu) (key_at I hb) dd fun h' dd' hs => q _ ?_
  rw [stored_kx] at dd'
  obtain ⟨o, es, ep, q1, q2, q3, q4, q6, q5⟩ := dd'
  have hnd : ((putP p b v xs).map (·.1)).Nodup := by
    rw [List.map_map] at q5
    have e : ((fun x : List Leaf × Addr × Value => x.1) ∘ fun x : Part × Addr × Value => (keyL x.1, x.2)) = keyL ∘ (·.1) := rfl
    rw [e, ← List.map_map] at q5
    exact (List.pairwise_map.mp q5).imp fun hpq z => hpq (by rw [z])
  refine d_write I (by rw [h]; exact True.intro) hs ⟨o, q1⟩ ?_
  refine ⟨⟨h1, ?_, o, es, ep, q1, q2, q3, q4.trans (entries_eq _), hnd⟩, ⟨o, q1⟩, fun k1 k2 z hz => ?_⟩
  · have := putP_len p b v xs
    omega
  · obtain ⟨z1, z2, o', es', ep', w1, w2⟩ := z
    exact ⟨z1, z2, o', es', ep', hz o' w1, w2⟩
end FL
set_option Elab.async false
set_option linter.all false
set_option maxRecDepth 100000
set_option maxHeartbeats 4000000
/-! plans: attributes, methods, memories -/
namespace FL
open PySem PySem.Spec PyProof.Rows L2 LamX
variable {X : Cx} {K : PySem.W.Frag} {mg : Str → Option Value} {T : Tb} {E : XK} {M M0 M1 H H0 H1 : Hp} {Γ : Env} {σ : L2.St}
/-! ### the dicts' rules over the hand layer -/
def PGet (K : PySem.W.Frag) (H : Hp) (a b : Addr) (xs : List (Part × Addr × Value)) (p : Part) : Prop := Rd H a (DicO a xs) ∧ (∀ x ∈ xs, SqT K H x.2.1 (x.1.map leafV)) ∧ SqT K H b (p.map leafV)
def tPNotIn (X : Cx) (ty td : TE) : TE := fun σ H Q => ty σ H fun y H1 => td σ H1 fun x H2 => ∃ a b xs p, x = .ref a ∧ y = .ref b ∧ PGet X.K H2 a b xs p ∧ Q (.bl (!(atP xs p).isSome)) H2
def tPIn (X : Cx) (ty td : TE) : TE := fun σ H Q => ty σ H fun y H1 => td σ H1 fun x H2 => ∃ a b xs p, x = .ref a ∧ y = .ref b ∧ PGet X.K H2 a b xs p ∧ Q (.bl (atP xs p).isSome) H2
def tPGet (X : Cx) (td ty : TE) : TE := fun σ H Q => td σ H fun x H1 => ty σ H1 fun y H2 => ∃ a b xs p z v, x = .ref a ∧ y = .ref b ∧ PGet X.K H2 a b xs p ∧ atP xs p = some z ∧ RelV v z.2 ∧ Q v H2
def sPPut (X : Cx) (td ty tv : TE) : TS := fun D σ H => tv σ H fun v H1 => td σ H1 fun x H2 => ty σ H2 fun y H3 => ∃ a b xs p, x = .ref a ∧ y = .ref b ∧ (H3 a = some (DicO a xs) ∧ PGet X.K H3 a b xs p) ∧ xs.length < sizeLine ∧ ∀ r, RelV v r → D.nx σ (upd H3 a (DicO a (putP p b r xs)))
section
variable {i o value : Expr} {ty td tv : TE} {pos pos' : Pos}
theorem pc_pnotin (hu : X.A.units + 1 < cLine) (hi : PE X i ty) (ho : PE X o td) : PC X .NotIn i o (tPNotIn X ty td) := by
  refine ⟨fun pins s σ H Q I h => ?_⟩
  refine thn (hi.run pins s σ H _ I h) fun iv s1 ⟨y, H1, I1, ry, q1⟩ => thn (ho.run pins s1 σ H1 _ I1 q1) fun u s2 ⟨x, H2, I2, rx, a, b, xs, p, ex, ey, g, q2⟩ => ?_
  subst ex ey
  obtain rfl : u = Value.ref a := rx
  obtain rfl : iv = Value.ref b := ry
  exact dic_notIn hu I2 g.1 g.2.1 g.2.2 fun s3 I3 => ⟨.bl _, H2, I3, rfl, q2⟩
theorem pc_pin (hu : X.A.units + 1 < cLine) (hi : PE X i ty) (ho : PE X o td) : PC X .In i o (tPIn X ty td) := by
  refine ⟨fun pins s σ H Q I h => ?_⟩
  refine thn (hi.run pins s σ H _ I h) fun iv s1 ⟨y, H1, I1, ry, q1⟩ => thn (ho.run pins s1 σ H1 _ I1 q1) fun u s2 ⟨x, H2, I2, rx, a, b, xs, p, ex, ey, g, q2⟩ => ?_
  subst ex ey
  obtain rfl : u = Value.ref a := rx
  obtain rfl : iv = Value.ref b := ry
  exact dic_in hu I2 g.1 g.2.1 g.2.2 fun s3 I3 => ⟨.bl _, H2, I3, rfl, q2⟩
theorem dic_typeIs {pins : List (Addr × Obj)} {s : Shared} {a : Addr} {xs : List (Part × Addr × Value)} (I : L2.Inv X pins σ H s) (h : Rd H a (DicO a xs)) (hk : ∀ x ∈ xs, SqT X.K H x.2.1 (x.1.map leafV)) : s.TypeIs (.ref a) "dict" := (dic_at I h hk).2.2.typeIs
theorem pe_pget (hu : X.A.units + 1 < cLine) (ho : PE X o td) (hi : PE X i ty) (hs : NoSl i) : PE X (.Subscript o i pos) (tPGet X td ty) := by
  refine ⟨fun pins s σ H Q I h => ?_⟩
  refine subD_of PySem.F.slot_dict_getitem.lookup hs (thn (ho.run pins s σ H _ I h) fun u s1 ⟨x, H1, I1, rx, q1⟩ => thn (hi.run pins s1 σ H1 _ I1 q1) fun iv s2 ⟨y, H2, I2, ry, a, b, xs, p, z, v, ex, ey, g, hz, rv, q2⟩ => ?_)
  subst ex ey
  obtain rfl : u = Value.ref a := rx
  obtain rfl : iv = Value.ref b := ry
  exact ⟨dic_typeIs I2 g.1 g.2.1, dic_get hu I2 g.1 g.2.1 g.2.2 hz fun s3 I3 => ⟨v, H2, I3, rv, q2⟩⟩
theorem ps_pput (hu : X.A.units + 1 < cLine) (ho : PE X o td) (hi : PE X i ty) (hv : PE X value tv) (hs : swapsWith value (some (.Subscript o i pos')) pos.line X.env = pure false) : PS X (.Assign [.Subscript o i pos'] value pos) (sPPut X td ty tv) := by
  refine ⟨fun pins s σ H D I h => ?_⟩
  refine wpAny_Assign_Subscript (thn (hv.run pins s σ H _ I h) fun r s1 ⟨v, H1, I1, rv, q1⟩ => thn (ho.run pins s1 σ H1 _ I1 q1) fun u s2 ⟨x, H2, I2, rx, q2⟩ => thn (hi.run pins s2 σ H2 _ I2 q2) fun iv s3 ⟨y, H3, I3, ry, a, b, xs, p, ex, ey, g, hl, q3⟩ => ?_) hs
  subst ex ey
  obtain rfl : u = Value.ref a := rx
  obtain rfl : iv = Value.ref b := ry
  exact dic_set hu I3 g.1 g.2.2.1 g.2.2.2 hl fun s4 I4 => ⟨σ, _, I4, q3 r rv⟩
end
/-! ### rows as data -/
def partOf : List D → Option Part
  | [] => some []
  | .non :: ds => (partOf ds).map (none :: ·)
  | .int i :: ds => (partOf ds).map (some i :: ·)
  | _ => none
theorem part_vals : ∀ {vs : List V} {ds : List D} {p : Part}, RpL K mg M vs ds → partOf ds = some p → vs = p.map leafV
  | _, _, _, .nil, h => by cases h; rfl
  | _, _, _, .cons (ds := ds) hd r, h => by
    cases hd with
    | non =>
      unfold partOf at h
      obtain ⟨q, hq, rfl⟩ := Option.map_eq_some_iff.mp h
      rw [part_vals r hq]
      rfl
    | int i =>
      unfold partOf at h
      obtain ⟨q, hq, rfl⟩ := Option.map_eq_some_iff.mp h
      rw [part_vals r hq]
      rfl
    | _ => cases h
def pD (p : Part) : D := .tup (p.map fun x => match x with | none => .non | some i => .int i)
theorem partOf_pD : ∀ p : Part, partOf (p.map fun x => match x with | none => D.non | some i => D.int i) = some p
  | [] => rfl
  | none :: p => by
    rw [List.map_cons]
    unfold partOf
    rw [partOf_pD p]
    rfl
  | some i :: p => by
    rw [List.map_cons]
    unfold partOf
    rw [partOf_pD p]
    rfl
/-! ### the class -/
structure PlC (K : PySem.W.Frag) (mg : Str → Option Value) (C : Addr) : Prop where
  gl : mg "Plan" = some (.ref C)
  cls : Cls K C
  n1 : NoAttr K C "letters"
  n2 : NoAttr K C "long"
  n3 : NoAttr K C "words"
  n4 : NoAttr K C "counts"
  n5 : NoAttr K C "depths"
def dPF (f : Str) : D → Out D
  | .pln L n ws => if f = "letters" then .ok (.int (L : Nat)) else if f = "long" then .ok (.int (n : Nat)) else if f = "words" then .ok (.wds ws) else .bad
  | _ => .bad
theorem e_pfld {C : Addr} {f : Str} {e : Expr} {m : Env → Out D} {pos : Pos} (c : PlC X.K X.mg C) (he : PEm X T E e m) (hb : attributeBase e f X.env (eval e X.env) = eval e X.env := by rfl) : PEm X T E (.Attribute e f pos) (m1 (dPF f) m) :=
  weakE (pe_fld he hb) fun σ H Q h => by
    obtain ⟨Γ, M, H0, r, f0⟩ := h
    refine ⟨Γ, M, H0, r, Fin.bind f0 fun d v H1 M1 _ e1 r1 f1 => ?_⟩
    have rs := r.ext e1
    cases r1 with
    | @pln p C' dx wd cc dd L n ws h1 h2 h3 h4 =>
      rw [c.gl] at h1
      cases h1
      have f1 : Fin X.K X.mg T M1 H1 Q E (if f = "letters" then .ok (.int (L : Nat)) else if f = "long" then .ok (.int (n : Nat)) else if f = "words" then .ok (.wds ws) else .bad) := f1
      by_cases q1 : f = "letters"
      · rw [if_pos q1] at f1
        subst q1
        exact ⟨p, C, dx, _, .int ((L : Nat) : Int), rfl, rs.ms _ _ h2, c.cls, c.n1, rfl, f1 _ _ _ rs.ext0 (.int _)⟩
      · rw [if_neg q1] at f1
        by_cases q2 : f = "long"
        · rw [if_pos q2] at f1
          subst q2
          exact ⟨p, C, dx, _, .int ((n : Nat) : Int), rfl, rs.ms _ _ h2, c.cls, c.n2, rfl, f1 _ _ _ rs.ext0 (.int _)⟩
        · rw [if_neg q2] at f1
          by_cases q3 : f = "words"
          · rw [if_pos q3] at f1
            subst q3
            exact ⟨p, C, dx, _, .ref wd, rfl, rs.ms _ _ h2, c.cls, c.n3, rfl, f1 _ _ _ rs.ext0 (.wds h4)⟩
          · rw [if_neg q3] at f1
            exact f1.elim
    | _ => exact f1.elim
/-! ### methods -/
def MtI (P : Program) (w : World) (K : PySem.W.Frag) (mg : Str → Option Value) (base : Heap) (T : Tb) (C : Addr) (k : Nat) (m : Str) (n : Nat) (f : List D → Out D) : Prop :=
  ∃ (a : Addr) (fd : FuncData) (ps : List Str), Meth K C m a ∧ Binds K fd ps [] ∧ FnOk P w K mg base (L2N.CX P w) k a fd ps (spOf K mg T n f)
theorem MtI.mono {P : Program} {w : World} {base : Heap} {C : Addr} {j k : Nat} {x : Str} {n : Nat} {f : List D → Out D} (h : MtI P w K mg base T C j x n f) (hj : j ≤ k) : MtI P w K mg base T C k x n f := by
  obtain ⟨a, fd, ps, h1, h2, h3⟩ := h
  exact ⟨a, fd, ps, h1, h2, h3.mono hj⟩
def isPln : D → Bool
  | .pln _ _ _ => true
  | _ => false
def mMeth (n : Nat) (f : List D → Out D) (mo : Env → Out D) (ms : Env → Out (List D)) : Env → Out D := fun Γ => (mo Γ).bind fun d => if isPln d = true then (ms Γ).bind fun ds => arg n f (d :: ds) else .bad
theorem FinA.imp {Q Q' : List V → Hp → Prop} (k : ∀ v H', Q v H' → Q' v H') {o : Out (List D)} (h : FinA K mg T M H Q E o) : FinA K mg T M H Q' E o := by
  cases o with
  | ok d => exact fun v H' M' e r => k v H' (h v H' M' e r)
  | exc c => exact h
  | bad => exact h
theorem meth_of {C : Addr} {m : Str} {n : Nat} {f : List D → Out D} {mo : Env → Out D} {ms : Env → Out (List D)} (c : PlC K mg C) (hm : m ≠ "letters" ∧ m ≠ "long" ∧ m ≠ "words" ∧ m ≠ "counts" ∧ m ≠ "depths") {Q : VK} (h : tOf K mg T E (mMeth n f mo ms) σ H Q) : tMeth C m (spOf K mg T n f) [] E (tOf K mg T E mo) (taOf K mg T E ms) σ H Q := by
  obtain ⟨Γ, M, H0, r, f0⟩ := h
  refine ⟨Γ, M, H0, r, Fin.bind f0 fun d v H1 M1 _ e1 r1 f1 => ?_⟩
  have rs := r.ext e1
  cases r1 with
  | @pln p C' dx wd cc dd L n' ws h1 h2 h3 h4 =>
    rw [c.gl] at h1
    cases h1
    have f1 : Fin K mg T M1 H1 Q E ((ms Γ).bind fun ds => arg n f (.pln L n' ws :: ds)) := f1
    refine ⟨p, dx, _, rfl, rs.ms _ _ h2, ?_, Γ, M1, H0, rs, FinA.bindE f1 fun ds vs H2 M2 _ e2 r2 f2 => ?_⟩
    · have aux : ∀ zs : List Int, ((zs.map fun x => (("letters" : Str), V.int x)) : List (Str × V)).lookup m = none := fun zs => by
        induction zs with
        | nil => rfl
        | cons z zs ih => rw [List.map_cons, List.lookup_cons, beq_false_of_ne hm.1]; exact ih
      unfold pf
      simp only [List.cons_append, List.nil_append, List.lookup_cons, beq_false_of_ne hm.1, beq_false_of_ne hm.2.1, beq_false_of_ne hm.2.2.1, beq_false_of_ne hm.2.2.2.1, beq_false_of_ne hm.2.2.2.2]
      exact aux _
    · have rs2 := rs.ext e2
      unfold arg at f2
      by_cases hn : (D.pln L n' ws :: ds).length = n
      · rw [if_pos hn] at f2
        show spOf K mg T n f (.ref p :: (vs ++ [])) H2 Q E
        rw [List.append_nil]
        exact ⟨by rw [← hn, List.length_cons, List.length_cons, r2.length], rs2.tb, M2, _, rs2.ms, rs2.nt, .cons (.pln c.gl (e2.mm _ _ h2) h3 (h4.mono e2.mm)) r2, f2⟩
      · rw [if_neg hn] at f2
        exact f2.elim
  | _ => exact f1.elim
theorem e_meth {C : Addr} {m : Str} {n k : Nat} {f : List D → Out D} {o e : Expr} {es : List Expr} {mo : Env → Out D} {ms : Env → Out (List D)} {apos pos : Pos} {pl : Sem Bool} (c : PlC X.K X.mg C) (F : MtI X.prog X.w X.K X.mg X.base T C k m n f) (hr : Room k X.A) (hx : Passes (L2N.CX X.prog X.w) X E) (ho : PEm X T E o mo) (ha : PAm X T E (e :: es) ms)
    (hm : m ≠ "letters" ∧ m ≠ "long" ∧ m ≠ "words" ∧ m ≠ "counts" ∧ m ≠ "depths" := by decide)
    (hst : starEach (e :: es) X.env = (false, eval e X.env) :: starEach es X.env := by rfl) (hpl : (backTo pos (starEach es X.env)).any (·.1) = false := by rfl)
    (ht : eval (.Call (.Attribute o m apos) (e :: es) [] pos) X.env = (do
      let ov ← eval o X.env
      standAt apos.atName
      let (f, first) ← holding [ov] (getMethod ov m pl)
      callWith pos f first (backTo pos (starEach (e :: es) X.env)) (backToKw pos (keywordEach [] X.env))) := by rfl) :
    PEm X T E (.Call (.Attribute o m apos) (e :: es) [] pos) (mMeth n f mo ms) := by
  obtain ⟨a, fd, ps, h1, h2, h3⟩ := F
  exact weakE (pe_meth (pl := pl) ho c.cls h1 h3 hr h2 .nil hx ha hst hpl ht) fun σ H Q h => meth_of c hm h
theorem e_meth0 {C : Addr} {m : Str} {n k : Nat} {f : List D → Out D} {o : Expr} {mo : Env → Out D} {apos pos : Pos} {pl : Sem Bool} (c : PlC X.K X.mg C) (F : MtI X.prog X.w X.K X.mg X.base T C k m n f) (hr : Room k X.A) (hx : Passes (L2N.CX X.prog X.w) X E) (ho : PEm X T E o mo)
    (hm : m ≠ "letters" ∧ m ≠ "long" ∧ m ≠ "words" ∧ m ≠ "counts" ∧ m ≠ "depths" := by decide)
    (ht : eval (.Call (.Attribute o m apos) [] [] pos) X.env = (do
      let ov ← eval o X.env
      standAt apos.atName
      let (f, first) ← holding [ov] (getMethod ov m pl)
      callWith pos f first (backTo pos (starEach [] X.env)) (backToKw pos (keywordEach [] X.env))) := by rfl) :
    PEm X T E (.Call (.Attribute o m apos) [] [] pos) (mMeth n f mo mNil) := by
  obtain ⟨a, fd, ps, h1, h2, h3⟩ := F
  refine weakE (pe_meth0 (pl := pl) ho c.cls h1 h3 hr h2 .nil hx ht) fun σ H Q h => ?_
  obtain ⟨Γ, M, H0, r, f0⟩ := meth_of (ms := mNil) c hm h
  refine ⟨Γ, M, H0, r, Fin.imp (fun v H1 q => ?_) f0⟩
  obtain ⟨p, dx, fs, e1, e2, e3, Γ1, M1, H01, r1, f1⟩ := q
  exact ⟨p, dx, fs, e1, e2, e3, f1 [] H1 M1 r1.ext0 .nil⟩
/-- THE RULE for a method -/
theorem def_okM {P : Program} {w : World} {base : Heap} {C : Addr} {x q : Str} {params : Arguments} {body : List Stmt} {scope : Scope} {a : Addr} {fd : FuncData} {N ps : List Str} {k : Nat} {m : Env → SO} (n : Nat) (F : FunD K x q params body scope [] [] a fd) (S : FnScope N ps scope) (hn : ps.length = n) (hg : Meth K C x a)
    (hb : ∀ (kV doc pm : Value) (an : Option Addr) (cdv ct : Value) (us : List Value), us.length = ps.length → bindArgs (PySem.W.fnOf x q params body scope .none kV doc pm an cdv ct) ⟨us, []⟩ = pure (ps.zip us))
    (hbody : ∀ (cdv : Value) (A : Around) (outer : List PySem.Env) (s : Shared) (H : Hp) (E : XK), Room k (A.deeper (envOfC q scope s.heap.objs.size a cdv)) →
      PSsm (cxOf (L2N.CX P w) P w K mg base N q scope a cdv A outer s H E) T E body m) : MtI P w K mg base T C (k + 1) x n (defM n (N.length - n) m) :=
  ⟨a, fd, ps, hg, F.bindsN hb, F.ok S (fun vs H Q E h => h.1.trans hn.symm) fun cdv A outer s H vs Q E hr h => ⟨_, hbody cdv A outer s H E hr, body_of h⟩⟩
theorem MtI.bad {P : Program} {w : World} {base : Heap} {C : Addr} {x q : Str} {params : Arguments} {body : List Stmt} {scope : Scope} {a : Addr} {fd : FuncData} {ps : List Str} {k n : Nat} (F : FunD K x q params body scope [] [] a fd) (hg : Meth K C x a) (hn : ps.length = n)
    (hb : ∀ (kV doc pm : Value) (an : Option Addr) (cdv ct : Value) (us : List Value), us.length = ps.length → bindArgs (PySem.W.fnOf x q params body scope .none kV doc pm an cdv ct) ⟨us, []⟩ = pure (ps.zip us)) : MtI P w K mg base T C k x n (fun _ => .bad) :=
  ⟨a, fd, ps, hg, F.bindsN hb, ⟨fun vs H Q E h => h.1.trans hn.symm, fun A outer s H args us vs Q E hr e0 hb hv h => by
    obtain ⟨_, _, _, _, _, _, _, h⟩ := h
    exact h.elim⟩⟩
end FL
set_option Elab.async false
set_option linter.all false
set_option maxRecDepth 100000
set_option maxHeartbeats 4000000
/-! what a plan remembers -/
namespace FL
open PySem PySem.Spec PyProof.Rows L2 LamX
variable {X : Cx} {K : PySem.W.Frag} {mg : Str → Option Value} {T : Tb} {E : XK} {M M0 M1 H H0 H1 : Hp} {Γ : Env} {σ : L2.St}
inductive Mem | cnt | dep
def Mem.fld : Mem → Str
  | .cnt => "counts"
  | .dep => "depths"
def Mem.f : Mem → Nat → List (List Int) → Part → Nat
  | .cnt, _, ws, p => cntP ws p
  | .dep, L, ws, p => depP L ws p
def Mem.ad : Mem → Addr → Addr → Addr
  | .cnt, c, _ => c
  | .dep, _, d => d
structure TOk (X : Cx) (T : Tb) : Prop where
  k : T.K = X.K
theorem PlanAt.mem {L n : Nat} {wd c d : Addr} {ws : List (List Int)} (h : PlanAt T H L n wd c d ws) (F : Mem) : MemoOk T H L n (F.ad c d) (F.f L ws) := by
  cases F
  · exact h.co
  · exact h.de
theorem Mem.look (F : Mem) {L n : Nat} {wd c d : Addr} {ws : List (List Int)} : (pf L n wd c d ws).lookup F.fld = some (.ref (F.ad c d)) := by
  cases F <;> rfl
theorem PlC.no {C : Addr} (c : PlC K mg C) (F : Mem) : NoAttr K C F.fld := by
  cases F
  · exact c.n4
  · exact c.n5
def SelfP (Γ : Env) : Option (Nat × Nat × List (List Int) × Part) := match (Γ[0]? : Option (Option Sl)), (Γ[1]? : Option (Option Sl)) with
  | some (some (.dat (.pln L n ws))), some (some (.dat (.row p))) => some (L, n, ws, p)
  | _, _ => none
theorem self_facts {L n : Nat} {ws : List (List Int)} {p : Part} (r : Rs K mg T H0 M H Γ σ) (hs : SelfP Γ = some (L, n, ws, p)) :
    ∃ q C dx wd c d b, σ[0]? = some (some (.ref q)) ∧ mg "Plan" = some (.ref C) ∧ M q = some (.ins C dx (pf L n wd c d ws)) ∧ KOk L n ws ∧ σ[1]? = some (some (.ref b)) ∧ SqT K M b (p.map leafV) ∧ PlanAt T H L n wd c d ws := by
  unfold SelfP at hs
  cases h0 : Γ[0]? with
  | none => rw [h0] at hs; cases hs
  | some o0 =>
    cases o0 with
    | none => rw [h0] at hs; cases hs
    | some s0 =>
      cases s0 with
      | own _ => rw [h0] at hs; cases hs
      | dct _ => rw [h0] at hs; cases hs
      | dco _ => rw [h0] at hs; cases hs
      | obj _ _ _ => rw [h0] at hs; cases hs
      | rob _ _ => rw [h0] at hs; cases hs
      | dat d0 =>
        cases h1 : Γ[1]? with
        | none => rw [h0, h1] at hs; cases d0 <;> cases hs
        | some o1 =>
          cases o1 with
          | none => rw [h0, h1] at hs; cases d0 <;> cases hs
          | some s1 =>
            cases s1 with
            | own _ => rw [h0, h1] at hs; cases d0 <;> cases hs
            | dct _ => rw [h0, h1] at hs; cases d0 <;> cases hs
            | dco _ => rw [h0, h1] at hs; cases d0 <;> cases hs
            | obj _ _ _ => rw [h0, h1] at hs; cases d0 <;> cases hs
            | rob _ _ => rw [h0, h1] at hs; cases d0 <;> cases hs
            | dat d1 =>
              rw [h0, h1] at hs
              cases d0 with
              | pln L' n' ws' =>
                cases d1 with
                | row p' =>
                  cases hs
                  obtain ⟨v0, q1, q2⟩ := r.dat 0 _ h0
                  obtain ⟨v1, q3, q4⟩ := r.dat 1 _ h1
                  cases q2 with
                  | @pln q C dx wd c d _ _ _ k1 k2 k3 k9 =>
                    cases q4 with
                    | @row b _ k4 =>
                      obtain ⟨o, g1, g2⟩ := k4
                      exact ⟨q, C, dx, wd, c, d, b, q1, k1, k2, k3, q3, .inl (.inr ⟨o, g1⟩), r.nt.pl.at_ q C dx L n wd c d ws k2 k3⟩
                | _ => cases hs
              | _ => cases d1 <;> cases hs
/-- the memory of the plan in slot 0 has the row -/
def KeyAt (F : Mem) (T : Tb) (M H : Hp) (σ : L2.St) (L n : Nat) (ws : List (List Int)) (p : Part) : Prop :=
  ∃ q C dx wd c d xs, σ[0]? = some (some (.ref q)) ∧ M q = some (.ins C dx (pf L n wd c d ws)) ∧ H (F.ad c d) = some (DicO (F.ad c d) xs) ∧ ((xs.map (·.1)).Nodup ∧ ∀ x ∈ xs, okP L n x.1 = true) ∧ (∀ x ∈ xs, SqT T.K H x.2.1 (x.1.map leafV) ∧ ∃ tk, x.2.2 = .int ((F.f L ws x.1 : Nat) : Int) tk) ∧ (atP xs p).isSome = true
def FinSK (K : PySem.W.Frag) (mg : Str → Option Value) (T : Tb) (F : Mem) (M0 H0 : Hp) (Dn : Ends) (E : XK) : SO → Prop
  | .nx Γ => ∀ σ H M, Ext T M0 H0 M H → Rs K mg T H0 M H Γ σ → (∃ L n ws p, SelfP Γ = some (L, n, ws, p) ∧ KeyAt F T M H σ L n ws p) → Dn.nx σ H
  | .exc c => ∀ C H M, Ext T M0 H0 M H → mg c = some (.ref C) → E (.ref C) none H
  | _ => False
def sOfK (K : PySem.W.Frag) (mg : Str → Option Value) (T : Tb) (F : Mem) (E : XK) (m : Env → SO) : TS := fun Dn σ H => ∃ Γ M M0 H0, Ext T M0 H0 M H ∧ Rs K mg T H0 M H Γ σ ∧ FinSK K mg T F M0 H0 Dn E (m Γ)
abbrev PSsK (X : Cx) (T : Tb) (F : Mem) (E : XK) (st : List Stmt) (m : Env → SO) : Prop := PSs X st (sOfK X.K X.mg T F E m)
theorem k_cons {F : Mem} {st : Stmt} {rest : List Stmt} {m n : Env → SO} (h1 : PSm X T E st m) (h2 : PSsK X T F E rest n) : PSsK X T F E (st :: rest) (sSeq m n) := weakSs (pss_cons h1 h2) fun Dn σ H h => by
  obtain ⟨Γ, M, M0, H0, e, r, f⟩ := h
  refine ⟨Γ, M, M0, H0, e, r, ?_⟩
  unfold sSeq at f
  cases q : m Γ with
  | nx Γ' =>
    rw [q] at f
    exact fun σ' H' M' e' r' => ⟨Γ', M', M0, H0, e', r', f⟩
  | rt d =>
    rw [q] at f
    exact f.elim
  | bk Γ' =>
    rw [q] at f
    exact f.elim
  | ct Γ' =>
    rw [q] at f
    exact f.elim
  | exc c =>
    rw [q] at f
    exact f
  | bad =>
    rw [q] at f
    exact f.elim
theorem k_if {F : Mem} {c : Expr} {a b : List Stmt} {tc : Env → Out Bool} {ma mb : Env → SO} {pos : Pos} (hc : PTm X T E c tc) (ha : PSsK X T F E a ma) (hb : PSsK X T F E b mb) : PSsK X T F E [.If c a b pos] (sIf tc ma mb) := weakSs (pss_one (ps_if hc ha hb)) fun Dn σ H h => by
  obtain ⟨Γ, M, M0, H0, e, r, f⟩ := h
  refine ⟨Γ, M, H0, r, ?_⟩
  unfold sIf at f
  cases q : tc Γ with
  | ok x =>
    rw [q] at f
    intro H1 M1 e1
    cases x with
    | true => exact ⟨Γ, M1, M0, H0, e.trans e1, r.ext e1, f⟩
    | false => exact ⟨Γ, M1, M0, H0, e.trans e1, r.ext e1, f⟩
  | exc c =>
    rw [q] at f
    exact fun C H' M' e1 hC => f C H' M' (e.trans e1) hC
  | bad =>
    rw [q] at f
    exact f.elim
/-- self.F[part] = e -/
def sMPut (F : Mem) (me : Env → Out D) : Env → SO := fun Γ => match SelfP Γ with
  | none => .bad
  | some (L, n, ws, p) => SO.ofO (me Γ) fun d => match d with
    | .int k => if k = ((F.f L ws p : Nat) : Int) ∧ okP L n p = true then .nx Γ else .bad
    | _ => .bad
theorem memo_len {L n : Nat} {ws : List (List Int)} (k : KOk L n ws) {xs : List (Part × Addr × Value)} (h : (xs.map (·.1)).Nodup ∧ ∀ x ∈ xs, okP L n x.1 = true) : xs.length < sizeLine := by
  have h1 := nodup_le (m := allParts L n) h.1 (fun p hp => by
    obtain ⟨x, hx, rfl⟩ := List.mem_map.mp hp
    exact okP_mem (h.2 x hx))
  rw [List.length_map, allParts_len] at h1
  have h2 : (L + 1) ^ n ≤ 4 ^ 6 := Nat.le_trans (Nat.pow_le_pow_left (by have := k.l3; omega) n) (Nat.pow_le_pow_right (by omega) k.n6)
  rw [sizeLine_eq]
  omega
theorem putP_keys {p : Part} {b : Addr} {v : Value} {xs : List (Part × Addr × Value)} (h : (xs.map (·.1)).Nodup) : ((putP p b v xs).map (·.1)).Nodup := by
  unfold putP
  split
  · rw [List.map_map]
    have e : xs.map ((fun x => x.1) ∘ fun x : Part × Addr × Value => if x.1 = p then (x.1, x.2.1, v) else x) = xs.map (·.1) := List.map_congr_left fun x _ => by
      simp only [Function.comp]
      split <;> rfl
    rw [e]
    exact h
  · rename_i hs
    rw [List.map_append]
    refine List.nodup_append.mpr ⟨h, by simp, fun a ha b' hb => ?_⟩
    simp only [List.map_cons, List.map_nil, List.mem_singleton] at hb
    rintro rfl
    subst hb
    obtain ⟨x, hx, hxa⟩ := List.mem_map.mp ha
    apply hs
    unfold atP
    rw [Option.isSome_map, List.find?_isSome]
    exact ⟨x, hx, decide_eq_true hxa⟩
theorem codeO_ne {c : Addr} {q : Str} {xs : List (Part × Addr × Value)} (h1 : H c = some (CodeO c q)) (h2 : H c = some (DicO c xs)) : False := by
  rw [h1] at h2
  have e := Option.some.inj h2
  unfold CodeO DicO at e
  injection e with e
  have hg : ({ objs := Array.replicate (c + 1) { cls := .none, data := .fields #[.none, .str q 0] } } : Heap).get? c = some { cls := .none, data := .fields #[.none, .str q 0] } := by
    unfold Heap.get?
    simp
  have e2 := congrFun e ({ objs := Array.replicate (c + 1) { cls := .none, data := .fields #[.none, .str q 0] } } : Heap)
  have hl : ∃ (oc : Obj) (vs : Array Value) (t : Tok), ({ objs := Array.replicate (c + 1) { cls := .none, data := .fields #[.none, .str q 0] } } : Heap).get? c = some oc ∧ oc.data = .fields vs ∧ vs[1]? = some (.str q t) := ⟨_, _, 0, hg, rfl, rfl⟩
  have hr := cast e2 hl
  obtain ⟨_, _, o', es, ep, k1, _, k3, _⟩ := hr
  rw [hg] at k1
  cases k1
  cases k3
/-- a memory's change keeps the plans -/
theorem PlanOk.memo {F : Mem} {q C dx wd c d : Addr} {L n : Nat} {ws : List (List Int)} {xs : List (Part × Addr × Value)} (h : PlanOk T M H) (hq : M q = some (.ins C dx (pf L n wd c d ws))) (hk : KOk L n ws) (hx : (xs.map (·.1)).Nodup ∧ ∀ x ∈ xs, okP L n x.1 = true)
    (hs : ∀ x ∈ xs, SqT T.K H x.2.1 (x.1.map leafV) ∧ ∃ tk, x.2.2 = .int ((F.f L ws x.1 : Nat) : Int) tk) : PlanOk T M (upd H (F.ad c d) (DicO (F.ad c d) xs)) where
  at_ := fun q' C' dx' L' n' wd' c' d' ws' hq' hk' => by
    obtain ⟨ys, hy0⟩ := (h.at_ q C dx L n wd c d ws hq hk).mem F
    have kt : ∀ b zs, SqT T.K H b zs → SqT T.K (upd H (F.ad c d) (DicO (F.ad c d) xs)) b zs := fun b zs z => by
      rcases z with (z | ⟨o, z⟩) | z
      · exact .inl (.inl (by rw [upd_ne (ne_of z hy0.1 (fun z => by cases z))]; exact z))
      · exact .inl (.inr ⟨o, by rw [upd_ne (ne_of z hy0.1 (fun z => by cases z))]; exact z⟩)
      · exact .inr z
    have ko : ∀ {a : Addr} {f : Part → Nat}, a ≠ F.ad c d → MemoOk T H L' n' a f → MemoOk T (upd H (F.ad c d) (DicO (F.ad c d) xs)) L' n' a f := fun hne hm => by
      obtain ⟨zs, z1, z2, z3⟩ := hm
      exact ⟨zs, by rw [upd_ne hne]; exact z1, z2, fun x hx => ⟨kt _ _ (z3 x hx).1, (z3 x hx).2⟩⟩
    have old := h.at_ q' C' dx' L' n' wd' c' d' ws' hq' hk'
    by_cases e : q = q'
    · subst e
      rw [hq] at hq'
      have e2 := Option.some.inj hq'
      injection e2 with e3 e4 e5
      obtain ⟨rfl, rfl, rfl, rfl, rfl, rfl⟩ := pf_inj hk hk' e5
      have new : MemoOk T (upd H (F.ad c d) (DicO (F.ad c d) xs)) L n (F.ad c d) (F.f L ws) := ⟨xs, upd_same, hx, fun x hx => ⟨kt _ _ (hs x hx).1, (hs x hx).2⟩⟩
      cases F with
      | cnt => exact ⟨new, ko (fun z => old.cd z.symm) old.de, old.cd⟩
      | dep => exact ⟨ko old.cd old.co, new, old.cd⟩
    · have dj := h.dj q C dx L n wd c d ws q' C' dx' L' n' wd' c' d' ws' hq hk hq' hk' e (F.ad c d) (by cases F <;> simp [Mem.ad])
      exact ⟨ko (fun z => dj c' (by simp) z.symm) old.co, ko (fun z => dj d' (by simp) z.symm) old.de, old.cd⟩
  dj := h.dj
theorem Ext.memo {F : Mem} {q C dx wd c d : Addr} {L n : Nat} {ws : List (List Int)} {xs : List (Part × Addr × Value)} (e : Ext T M0 H0 M H) (hq : M q = some (.ins C dx (pf L n wd c d ws))) (hk : KOk L n ws) (hx : (xs.map (·.1)).Nodup ∧ ∀ x ∈ xs, okP L n x.1 = true)
    (hs : ∀ x ∈ xs, SqT T.K H x.2.1 (x.1.map leafV) ∧ ∃ tk, x.2.2 = .int ((F.f L ws x.1 : Nat) : Int) tk) : Ext T M0 H0 M (upd H (F.ad c d) (DicO (F.ad c d) xs)) := by
  obtain ⟨ys, hy0⟩ := (e.nt.pl.at_ q C dx L n wd c d ws hq hk).mem F
  refine ⟨fun b o hb ho => ?_, fun b φ hb => ?_, fun h => ?_, e.mm, fun b o hb => ?_, ⟨e.nt.kd, e.nt.pl.memo hq hk hx hs⟩, e.nw, e.nm⟩
  · have h1 := e.kp b o hb ho
    rw [upd_ne (ne_of h1 hy0.1 (fun z => by subst z; exact ho.elim))]
    exact h1
  · by_cases z : b = F.ad c d
    · have hm : MemoA M b := ⟨q, C, dx, L, n, wd, c, d, ws, hq, hk, by
        rw [z]
        cases F
        · exact .inl rfl
        · exact .inr rfl⟩
      exact .inr ⟨(e.nm b hm).elim id fun y => absurd hb (y φ), _, by rw [z, upd_same]; rfl⟩
    · rw [upd_ne z]
      exact e.ke b φ hb
  · refine fun p hp => ?_
    obtain ⟨ps, h1, h2, h3⟩ := e.tb h p hp
    refine ⟨ps, ?_, h2, fun pos cv hc => ?_⟩
    · rw [upd_ne (ne_of h1 hy0.1 (fun z => by cases z))]
      exact h1
    · obtain ⟨cc, e1, hc⟩ := h3 pos cv hc
      refine ⟨cc, e1, ?_⟩
      rw [upd_ne (fun z => ?_)]
      · exact hc
      · exact codeO_ne hc (z ▸ hy0.1)
  · have h1 := e.ms b o hb
    rw [upd_ne (ne_of h1 hy0.1 (fun z => by
      subst z
      exact (e.nt.kd b _ hb).elim))]
    exact h1
end FL
set_option Elab.async false
set_option linter.all false
set_option maxRecDepth 100000
set_option maxHeartbeats 4000000
/-! what a plan remembers: the store, the look *)-/
namespace FL
open PySem PySem.Spec PyProof.Rows L2 LamX
variable {X : Cx} {K : PySem.W.Frag} {mg : Str → Option Value} {T : Tb} {E : XK} {M M0 M1 H H0 H1 : Hp} {Γ : Env} {σ : L2.St}
theorem Rs.memo {F : Mem} {q C dx wd c d : Addr} {L n : Nat} {ws : List (List Int)} {xs : List (Part × Addr × Value)} (r : Rs K mg T H0 M H Γ σ) (hq : M q = some (.ins C dx (pf L n wd c d ws))) (hk : KOk L n ws) (hx : (xs.map (·.1)).Nodup ∧ ∀ x ∈ xs, okP L n x.1 = true)
    (hs : ∀ x ∈ xs, SqT T.K H x.2.1 (x.1.map leafV) ∧ ∃ tk, x.2.2 = .int ((F.f L ws x.1 : Nat) : Int) tk) : Rs K mg T H0 M (upd H (F.ad c d) (DicO (F.ad c d) xs)) Γ σ := r.ext (r.ext0.memo hq hk hx hs)
theorem memo_put {F : Mem} {L n : Nat} {ws : List (List Int)} {p : Part} {b : Addr} {r : Value} {k : Int} {xs : List (Part × Addr × Value)} (hr : ∃ tk, r = .int k tk) (hk : k = ((F.f L ws p : Nat) : Int)) (hp : okP L n p = true) (hb : SqT T.K H b (p.map leafV)) (hx : (xs.map (·.1)).Nodup ∧ ∀ x ∈ xs, okP L n x.1 = true)
    (hs : ∀ x ∈ xs, SqT T.K H x.2.1 (x.1.map leafV) ∧ ∃ tk, x.2.2 = .int ((F.f L ws x.1 : Nat) : Int) tk) :
    (((putP p b r xs).map (·.1)).Nodup ∧ ∀ x ∈ putP p b r xs, okP L n x.1 = true) ∧ ∀ x ∈ putP p b r xs, SqT T.K H x.2.1 (x.1.map leafV) ∧ ∃ tk, x.2.2 = .int ((F.f L ws x.1 : Nat) : Int) tk := by
  refine ⟨⟨putP_keys hx.1, fun x hm => ?_⟩, fun x hm => ?_⟩
  · rcases putP_mem hm with h | rfl | ⟨h1, h2, y, hy, e1, e2⟩
    · exact hx.2 x h
    · exact hp
    · rw [h1]; exact hp
  · rcases putP_mem hm with h | rfl | ⟨h1, h2, y, hy, e1, e2⟩
    · exact hs x h
    · obtain ⟨tk, rfl⟩ := hr
      exact ⟨hb, tk, by rw [hk]⟩
    · obtain ⟨tk, rfl⟩ := hr
      refine ⟨?_, tk, by rw [h2, h1, hk]⟩
      rw [← e2, h1, ← e1]
      exact (hs y hy).1
section
variable {F : Mem} {C : Addr} {k : Nat} {sn pn : Str} {p1 p2 p3 p4 p5 pos : Pos}
theorem k_put {e : Expr} {me : Env → Out D} {f : Str} (hf : f = F.fld) (hT : TOk X T) (c : PlC X.K X.mg C) (hr : Room k X.A) (he : PEm X T E e me) (h0 : X.N[0]? = some sn := by rfl) (h1 : X.N[1]? = some pn := by rfl)
    (v0 : Vis X.env.scope sn := by first | exact Or.inl rfl | exact Or.inr (Or.inl rfl) | exact Or.inr (Or.inr rfl)) (v1 : Vis X.env.scope pn := by first | exact Or.inl rfl | exact Or.inr (Or.inl rfl) | exact Or.inr (Or.inr rfl)) (d0 : (sn == ("__debug__" : Str)) = false := by decide) (d1 : (pn == ("__debug__" : Str)) = false := by decide)
    (c0 : (sn == ("__classdict__" : Str)) = false := by decide) (c1 : (pn == ("__classdict__" : Str)) = false := by decide) (hb : attributeBase (.Name sn p1) f X.env (eval (.Name sn p1) X.env) = eval (.Name sn p1) X.env := by rfl)
    (hs : swapsWith e (some (.Subscript (.Attribute (.Name sn p1) f p2) (.Name pn p3) p4)) pos.line X.env = pure false := by rfl) : PSsK X T F E [.Assign [.Subscript (.Attribute (.Name sn p1) f p2) (.Name pn p3) p4] e pos] (sMPut F me) := by
  subst hf
  refine weakSs (pss_one (ps_pput (by have := hr.un; omega) (pe_fld (pe_var h0 v0 d0 c0) hb) (pe_var h1 v1 d1 c1) he hs)) fun Dn σ H h => ?_
  obtain ⟨Γ, M, M0, H0, ex, r, f⟩ := h
  unfold sMPut at f
  cases hsp : SelfP Γ with
  | none =>
    rw [hsp] at f
    exact f.elim
  | some t =>
    obtain ⟨L, n, ws, p⟩ := t
    rw [hsp] at f
    refine ⟨Γ, M, H0, r, ?_⟩
    cases hme : me Γ with
    | bad =>
      simp only [hme, SO.ofO] at f
      exact f.elim
    | exc cc =>
      simp only [hme, SO.ofO] at f
      exact fun C' H' M' e1 hC => f C' H' M' (ex.trans e1) hC
    | ok d =>
      simp only [hme, SO.ofO] at f
      intro v H1 M1 e1 r1
      cases r1 with
      | int i =>
        by_cases hk : i = ((F.f L ws p : Nat) : Int) ∧ okP L n p = true
        · have f : FinSK X.K X.mg T F M0 H0 Dn E (if i = ((F.f L ws p : Nat) : Int) ∧ okP L n p = true then .nx Γ else .bad) := f
          rw [if_pos hk] at f
          have rs := r.ext e1
          obtain ⟨q, C', dx, wd, cc, dd, b, s0, g0, mq, ko, s1, sb, pa⟩ := self_facts rs hsp
          rw [c.gl] at g0
          cases g0
          obtain ⟨xs, m1, m2, m3⟩ := pa.mem F
          have sb2 : SqT T.K H1 b (p.map leafV) := by
            rw [hT.k]
            exact same_sqT rs.ms sb
          refine ⟨.ref q, s0, q, C, dx, _, .ref (F.ad cc dd), rfl, rs.ms _ _ mq, c.cls, c.no F, F.look, .ref b, s1, F.ad cc dd, b, xs, p, rfl, rfl, ⟨m1, .inl m1, fun x hx => ?_, ?_⟩, memo_len ko m2, fun rv hrv => ?_⟩
          · rw [← hT.k]
            exact (m3 x hx).1
          · rw [← hT.k]
            exact sb2
          · obtain ⟨n1, n2⟩ := memo_put (T := T) (F := F) hrv hk.1 hk.2 sb2 m2 m3
            refine f σ _ M1 ((ex.trans e1).memo mq ko n1 n2) (rs.memo mq ko n1 n2) ⟨L, n, ws, p, hsp, q, C, dx, wd, cc, dd, _, s0, mq, upd_same, n1, fun x hx => ?_, ?_⟩
            · have ee := ((ex.trans e1).memo (F := F) mq ko n1 n2).nt.pl.at_ q C dx L n wd cc dd ws mq ko
              obtain ⟨ys, y1, y2, y3⟩ := ee.mem F
              refine ⟨?_, (n2 x hx).2⟩
              have z := (n2 x hx).1
              rcases z with (z | ⟨o, z⟩) | z
              · exact .inl (.inl (by rw [upd_ne (ne_of z m1 (fun z => by cases z))]; exact z))
              · exact .inl (.inr ⟨o, by rw [upd_ne (ne_of z m1 (fun z => by cases z))]; exact z⟩)
              · exact .inr z
            · have := putP_at p b rv xs
              cases z : atP (putP p b rv xs) p with
              | none => rw [z] at this; cases this
              | some _ => rfl
        · have f : FinSK X.K X.mg T F M0 H0 Dn E (if i = ((F.f L ws p : Nat) : Int) ∧ okP L n p = true then .nx Γ else .bad) := f
          rw [if_neg hk] at f
          exact f.elim
      | _ => exact f.elim
/-- if part not in self.F: .. ; return self.F[part] -/
def sMemo (F : Mem) (mb : Env → SO) : Env → SO := fun Γ => match SelfP Γ with
  | none => .bad
  | some t => match mb Γ with
    | .nx Γ' => if SelfP Γ' = some t then .rt (.int ((F.f t.1 t.2.2.1 t.2.2.2 : Nat) : Int)) else .bad
    | _ => .bad
theorem s_memo {body : List Stmt} {mb : Env → SO} {f : Str} {q1 q2 q3 q4 q5 q6 : Pos} (hf : f = F.fld) (hT : TOk X T) (c : PlC X.K X.mg C) (hr : Room k X.A) (hbody : PSsK X T F E body mb) (h0 : X.N[0]? = some sn := by rfl) (h1 : X.N[1]? = some pn := by rfl)
    (v0 : Vis X.env.scope sn := by first | exact Or.inl rfl | exact Or.inr (Or.inl rfl) | exact Or.inr (Or.inr rfl)) (v1 : Vis X.env.scope pn := by first | exact Or.inl rfl | exact Or.inr (Or.inl rfl) | exact Or.inr (Or.inr rfl)) (d0 : (sn == ("__debug__" : Str)) = false := by decide) (d1 : (pn == ("__debug__" : Str)) = false := by decide)
    (c0 : (sn == ("__classdict__" : Str)) = false := by decide) (c1 : (pn == ("__classdict__" : Str)) = false := by decide) (hb : attributeBase (.Name sn p1) f X.env (eval (.Name sn p1) X.env) = eval (.Name sn p1) X.env := by rfl) (hb2 : attributeBase (.Name sn q1) f X.env (eval (.Name sn q1) X.env) = eval (.Name sn q1) X.env := by rfl)
    (hm : behindInMarks .NotIn (.Attribute (.Name sn p1) f p2) = false := by rfl) (hsl : NoSl (.Name pn q3) := by exact fun _ _ => rfl) :
    PSsm X T E [.If (.Compare (.Name pn p3) [.NotIn] [.Attribute (.Name sn p1) f p2] p4) body [] p5, .Return (some (.Subscript (.Attribute (.Name sn q1) f q2) (.Name pn q3) q4)) q5] (sMemo F mb) := by
  subst hf
  have hu : X.A.units + 1 < cLine := by have := hr.un; omega
  refine weakSs (pss_cons (ps_if (pt_cmp (pc_pnotin hu (pe_var h1 v1 d1 c1) (pe_fld (pe_var h0 v0 d0 c0) hb)) hm) hbody pss_nil) (pss_one (ps_ret (pe_pget hu (pe_fld (pe_var h0 v0 d0 c0) hb2) (pe_var h1 v1 d1 c1) hsl)))) fun Dn σ H h => ?_
  obtain ⟨Γ, M, M0, H0, ex, r, f⟩ := h
  unfold sMemo at f
  cases hsp : SelfP Γ with
  | none =>
    rw [hsp] at f
    exact f.elim
  | some t =>
    obtain ⟨L, n, ws, p⟩ := t
    rw [hsp] at f
    cases hmb : mb Γ with
    | nx Γ' =>
      simp only [hmb] at f
      by_cases hs' : SelfP Γ' = some (L, n, ws, p)
      · rw [if_pos hs'] at f
        have f : ∀ v H M, Ext T M0 H0 M H → Rp X.K X.mg M v (.int ((F.f L ws p : Nat) : Int)) → Dn.rt v H := f
        -- what a look tells, where the row is there
        have look : ∀ {Γ2 : Env} {σ2 : L2.St} {H2 M2 : Hp}, Ext T M0 H0 M2 H2 → Rs X.K X.mg T H0 M2 H2 Γ2 σ2 → SelfP Γ2 = some (L, n, ws, p) → KeyAt F T M2 H2 σ2 L n ws p → tPGet X (tFld X.K (tVar 0) F.fld) (tVar 1) σ2 H2 Dn.rt := fun {Γ2 σ2 H2 M2} e2 r2 hs2 hk2 => by
          obtain ⟨q, C', dx, wd, cc, dd, b, s0, g0, mq, ko, s1, sb, pa⟩ := self_facts r2 hs2
          rw [c.gl] at g0
          cases g0
          obtain ⟨q', C', dx', wd', cc', dd', xs, t0, t1, t2, t3, t4, t5⟩ := hk2
          rw [s0] at t0
          cases t0
          rw [mq] at t1
          have e3 := Option.some.inj t1
          injection e3 with e4 e5 e6
          obtain ⟨_, _, rfl, rfl, rfl, _⟩ := pf_inj ko ko e6
          cases hz : atP xs p with
          | none => rw [hz] at t5; cases t5
          | some z =>
            obtain ⟨_, tk, hv⟩ := t4 _ (atP_mem hz)
            refine ⟨.ref q, s0, q, C, dx, _, .ref (F.ad cc dd), rfl, r2.ms _ _ mq, c.cls, c.no F, F.look, .ref b, s1, F.ad cc dd, b, xs, p, z, .int ((F.f L ws p : Nat) : Int), rfl, rfl, ⟨.inl t2, fun x hx => ?_, same_sqT r2.ms sb⟩, hz, ⟨tk, hv⟩, f _ _ _ e2 (.int _)⟩
            · rw [← hT.k]
              exact (t4 x hx).1
        obtain ⟨q, C', dx, wd, cc, dd, b, s0, g0, mq, ko, s1, sb, pa⟩ := self_facts r hsp
        rw [c.gl] at g0
        cases g0
        obtain ⟨xs, m1, m2, m3⟩ := pa.mem F
        refine ⟨.ref b, s1, .ref q, s0, q, C, dx, _, .ref (F.ad cc dd), rfl, r.ms _ _ mq, c.cls, c.no F, F.look, F.ad cc dd, b, xs, p, rfl, rfl, ⟨.inl m1, fun x hx => ?_, same_sqT r.ms sb⟩, _, rfl, ?_⟩
        · rw [← hT.k]
          exact (m3 x hx).1
        · cases hz : (atP xs p).isSome with
          | true => exact look ex r hsp ⟨q, C, dx, wd, cc, dd, xs, s0, mq, m1, m2, m3, hz⟩
          | false =>
            refine ⟨Γ, M, M0, H0, ex, r, ?_⟩
            rw [hmb]
            rintro σ2 H2 M2 e2 r2 ⟨L2, n2, ws2, p2, hs2, hk2⟩
            rw [hs'] at hs2
            cases hs2
            exact look e2 r2 hs' hk2
      · rw [if_neg hs'] at f
        exact f.elim
    | _ =>
      simp only [hmb] at f
      exact f.elim
end
end FL
set_option Elab.async false
set_option linter.all false
set_option maxRecDepth 100000
set_option maxHeartbeats 4000000
/-! dict(pairs) of words; in *)-/
namespace FL
open PySem PySem.Spec PyProof.Rows L2 LamX
variable {X : Cx} {K : PySem.W.Frag} {mg : Str → Option Value} {T : Tb} {E : XK} {M M0 M1 H H0 H1 : Hp} {Γ : Env} {σ : L2.St}
section
variable (K : PySem.W.Frag) (H : Hp)
inductive PrR : List V → List (Part × Addr) → Prop
  | nil : PrR [] []
  | cons {t b : Addr} {p : Part} {us : List V} {ps : List (Part × Addr)} : SqT K H t [.ref b, .bl true] → SqT K H b (p.map leafV) → PrR us ps → PrR (.ref t :: us) ((p, b) :: ps)
end
theorem PrR.mono (e : Same H H1) : ∀ {us : List V} {ps : List (Part × Addr)}, PrR K H us ps → PrR K H1 us ps
  | _, _, .nil => .nil
  | _, _, .cons h1 h2 r => .cons (same_sqT e h1) (same_sqT e h2) (PrR.mono e r)
theorem PrR.length : ∀ {us : List V} {ps : List (Part × Addr)}, PrR K H us ps → us.length = ps.length
  | _, _, .nil => rfl
  | _, _, .cons h1 h2 r => by rw [List.length_cons, List.length_cons, PrR.length r]
theorem PrR.get : ∀ {us : List V} {ps : List (Part × Addr)}, PrR K H us ps → ∀ {j : Nat} {p : Part} {b : Addr}, ps[j]? = some (p, b) → ∃ t, us[j]? = some (.ref t) ∧ SqT K H t [.ref b, .bl true] ∧ SqT K H b (p.map leafV)
  | _, _, .nil, j, p, b, h => by simp at h
  | _, _, .cons h1 h2 r, 0, p, b, h => by
    simp at h
    obtain ⟨rfl, rfl⟩ := h
    exact ⟨_, rfl, h1, h2⟩
  | _, _, .cons h1 h2 r, j + 1, p, b, h => by
    obtain ⟨t, q1, q2⟩ := PrR.get r (j := j) (by simpa using h)
    exact ⟨t, by simpa using q1, q2⟩
theorem storedAll_new {k : Type} [DecidableEq k] : ∀ (ps acc : List (k × Addr × Value)), (ps.map (·.1)).Nodup → (∀ x ∈ ps, ∀ y ∈ acc, y.1 ≠ x.1) → storedAllH acc ps = acc ++ ps
  | [], acc, _, _ => by
    rw [List.append_nil]
    rfl
  | x :: ps, acc, hn, hd => by
    rw [List.map_cons, List.nodup_cons] at hn
    have hnone : atKey acc x.1 = none := by
      unfold atKey
      rw [Option.map_eq_none_iff, List.find?_eq_none]
      intro y hy
      have := hd x List.mem_cons_self y hy
      simpa using this
    have e : storedAllH acc (x :: ps) = storedAllH (storedH acc x.1 x.2.1 x.2.2) ps := rfl
    rw [e, storedH_new hnone, storedAll_new ps _ hn.2]
    · rw [List.append_assoc]
      rfl
    · intro z hz y hy
      rcases List.mem_append.mp hy with hy | hy
      · exact hd z (List.mem_cons_of_mem _ hz) y hy
      · rw [List.mem_singleton] at hy
        rw [hy]
        intro z2
        exact hn.1 (by rw [show x.1 = z.1 from z2]; exact List.mem_map_of_mem hz)
def rDictW (K : PySem.W.Frag) : List V → Hp → VK → Prop := fun vs H Q => ∃ l us ps, vs = [V.ref l] ∧ SqL K H l us ∧ PrR K H us ps ∧ (ps.map (·.1)).Nodup ∧ ps.length ≤ 1000 ∧
  ∀ d o, H d = none → Q (.ref d) (upd H d (.frz o (DicO d (ps.map fun x => (x.1, x.2, Value.bool true)))))
theorem cr_dictW (hc : X.calm = true) (hu : X.A.units + 2 < cLine) : CallR X (.type "dict") (rDictW X.K) := by
  intro pins s σ H vs us Q I r h
  obtain ⟨l, vs', ps, rfl, hs, pr, hnd, hlen, q⟩ := h
  obtain ⟨its, rv, pl, hz⟩ := I.list hs
  obtain ⟨u, rfl, ru⟩ := vals1 r
  obtain rfl : u = Value.ref l := ru
  have hlp := pr.length
  have hli := rv.length
  have hnd2 : ((ps.map fun x => (keyL x.1, x.2, Value.bool true)).map (·.1)).Nodup := by
    rw [List.map_map]
    rw [show ((fun x : List Leaf × Addr × Value => x.1) ∘ fun x : Part × Addr => (keyL x.1, x.2, Value.bool true)) = keyL ∘ (·.1) from rfl, ← List.map_map]
    exact List.Pairwise.map keyL (fun a b hab z => hab (keyL_inj z)) hnd
  have hkeys : ∀ x ∈ ps.map (fun x => (keyL x.1, x.2, Value.bool true)), (tupleKind (leafKind X.prog X.w)).is s.heap x.1 x.2.1 := fun x hx => by
    obtain ⟨y, hy, rfl⟩ := List.mem_map.mp hx
    obtain ⟨j, hj⟩ := List.getElem?_of_mem hy
    obtain ⟨t, _, _, h3⟩ := pr.get (p := y.1) (b := y.2) hj
    exact key_at I h3
  refine call_dict_pairsH (knd := tupleKind (leafKind X.prog X.w)) (ps := ps.map fun x => (keyL x.1, x.2, Value.bool true)) (PairArg.list l its.toArray (fun j => match its[j]? with | some (.ref t) => t | _ => 0) (ps.map fun x => (Value.ref x.2, Value.bool true))) (I.ok.hd hc) (show X.A.units + 1 + 1 < cLine from hu) ⟨pl, ?_, fun j k v hj => ?_⟩ ⟨by rw [List.length_map, List.length_map], fun i k v hr => ?_⟩ (fun h' hk x hx => ?_) (by rw [List.length_map, sizeLine_eq]; omega) (fun h' tk dd hk => ?_)
  · rw [List.size_toArray, List.length_map]
    omega
  · rw [List.getElem?_map] at hj
    obtain ⟨y, hy, e⟩ := Option.map_eq_some_iff.mp hj
    cases e
    obtain ⟨t, h1, h2, h3⟩ := pr.get (p := y.1) (b := y.2) hy
    obtain ⟨u, hu1, hu2⟩ := rv.get h1
    obtain rfl : u = Value.ref t := hu2
    have e2 : its.toArray[j]? = some (Value.ref t) := by
      rw [List.getElem?_toArray]
      exact hu1
    obtain ⟨its2, rv2, ⟨o, ho, hcl, n, hd⟩, _⟩ := I.tuple h2
    obtain ⟨u1, u2, rfl, ra, rb⟩ := vals2 rv2
    obtain rfl : u1 = Value.ref y.2 := ra
    obtain rfl : u2 = Value.bool true := rb
    have e3 : (match its[j]? with | some (.ref t) => t | _ => 0) = t := by rw [hu1]
    refine ⟨?_, .inl ?_⟩
    · show its.toArray[j]? = some (.ref (match its[j]? with | some (.ref t) => t | _ => 0))
      rw [e3]
      exact e2
    · show s.heap.IsTuple (match its[j]? with | some (.ref t) => t | _ => 0) _
      rw [e3]
      exact ⟨o, ho, hcl, n, hd⟩
  · have hr : (ps.map fun x => (Value.ref x.2, Value.bool true))[i]? = some (k, v) := hr
    rw [List.getElem?_map] at hr
    obtain ⟨y, hy, e⟩ := Option.map_eq_some_iff.mp hr
    cases e
    exact ⟨keyL y.1, y.2, by rw [List.getElem?_map, hy]; rfl, rfl⟩
  · obtain ⟨o, items, n, g1, g2, g3, g4⟩ := hkeys x hx
    exact ⟨o, items, n, hk _ _ (Nat.ne_of_lt (Heap.lt_size g1)) (by simp) g1, g2, g3, g4⟩
  · rw [storedAll_new _ [] hnd2 (fun x _ y hy => by cases hy), List.nil_append] at dd
    obtain ⟨o, es, ep, q1, q2, q3, q4, _, _⟩ := dd
    have e : (ps.map fun x => (keyL x.1, x.2, Value.bool true)) = (ps.map fun x => (x.1, x.2, Value.bool true)).map fun x => (keyL x.1, x.2) := by
      rw [List.map_map]
      rfl
    rw [e, entries_eq] at q4
    refine ⟨.ref s.heap.objs.size, _, I.laid (a := s.heap.objs.size) (o := .frz o (DicO s.heap.objs.size (ps.map fun x => (x.1, x.2, Value.bool true)))) (t' := tk) (fun b u eb => hk b u (by simp) eb) (Nat.le_refl _) ⟨q1, ⟨beq_eq_false_iff_ne.mpr (Ne.symm (Nat.ne_of_lt I.big)), by rw [List.length_map, sizeLine_eq]; omega, o, es, ep, q1, q2, q3, q4, ?_⟩, ⟨o, q1⟩, fun k1 k2 z hz => ?_⟩, rfl, q _ o (I.hok.fresh (Nat.le_refl _))⟩
    · rw [List.map_map]
      exact hnd
    · obtain ⟨z1, z2, o', es', ep', w1, w2⟩ := z
      exact ⟨z1, z2, o', es', ep', hz o' w1, w2⟩
/-- the words of a list of pairs (word, True) -/
def toPW : List D → Option (List (List Int))
  | [] => some []
  | .tup [.tup xs, .bl true] :: r => match toInts xs, toPW r with
    | some w, some ws => some (w :: ws)
    | _, _ => none
  | _ => none
def dDictW : D → Out D
  | .lst ds => (match toPW ds with
    | some ws => if ws.Nodup ∧ ws.length ≤ 1000 then .ok (.wds ws) else .bad
    | none => .bad)
  | _ => .bad
theorem nx_dictW : noX1 dDictW := fun d c h => by
  cases d with
  | lst ds =>
    have h : (match toPW ds with
      | some ws => if ws.Nodup ∧ ws.length ≤ 1000 then Out.ok (D.wds ws) else .bad
      | none => .bad) = .exc c := h
    cases hw : toPW ds with
    | none => rw [hw] at h; exact nomatch h
    | some ws =>
      rw [hw] at h
      dsimp only at h
      by_cases hc : ws.Nodup ∧ ws.length ≤ 1000
      · rw [if_pos hc] at h; exact nomatch h
      · rw [if_neg hc] at h; exact nomatch h
  | _ => exact nomatch h
theorem leaf_ints (w : List Int) : ((w.map some).map leafV) = w.map V.int := by
  rw [List.map_map]
  rfl
theorem toPW_rp : ∀ {vs : List V} {ds : List D} {ws : List (List Int)}, RpL K mg M vs ds → toPW ds = some ws → ∃ ps, PrR K M vs ps ∧ ps.map (·.1) = ws.map (·.map some)
  | _, _, _, .nil, h => by cases h; exact ⟨[], .nil, rfl⟩
  | _, _, ws, .cons (v := v) (d := d) (vs := vs) (ds := ds) h r, e => by
    cases h with
    | tup ha ra =>
      rename_i a us xs
      cases ra with
      | nil => simp [toPW] at e
      | cons r1 t1 =>
        cases t1 with
        | nil => cases r1 <;> simp [toPW] at e
        | cons r2 t2 =>
          cases t2 with
          | cons _ _ => cases r1 <;> cases r2 <;> simp [toPW] at e
          | nil =>
            cases r1 with
            | @tup b us2 zs hb rb =>
              cases r2 with
              | bl x =>
                cases x with
                | false => simp [toPW] at e
                | true =>
                  unfold toPW at e
                  cases h1 : toInts zs with
                  | none => rw [h1] at e; cases e
                  | some w =>
                    cases h2 : toPW ds with
                    | none => rw [h1, h2] at e; cases e
                    | some ws' =>
                      rw [h1, h2] at e
                      cases e
                      obtain ⟨ps, q1, q2⟩ := toPW_rp r h2
                      rw [toInts_rp rb h1, ← leaf_ints] at hb
                      exact ⟨(w.map some, b) :: ps, .cons ha hb q1, by rw [List.map_cons, q2, List.map_cons]⟩
              | _ => simp [toPW] at e
            | _ => cases r2 <;> simp [toPW] at e
    | _ => simp [toPW] at e
theorem map_some_inj : ∀ {a b : List Int}, a.map some = b.map some → a = b
  | [], [], _ => rfl
  | x :: a, y :: b, h => by
    simp only [List.map_cons, List.cons.injEq, Option.some.injEq] at h
    rw [h.1, map_some_inj h.2]
theorem newFrz {p : Addr} {o : Obj} {u : HO} (ms : Same M H) (nt : NoT T M H) (hp : H p = none) : Ext T M H (upd M p (.frz o u)) (upd H p (.frz o u)) := Ext.new ms nt hp True.intro
theorem cd_dictW : CallD K mg T (rDictW K) (c1 dDictW) := cd_1 fun x dx M H Q d s nt rx hf q => by
  cases rx with
  | @lst a vs ds ha ra =>
    have hf : (match toPW ds with
      | some ws => if ws.Nodup ∧ ws.length ≤ 1000 then Out.ok (D.wds ws) else .bad
      | none => .bad) = .ok d := hf
    cases hw : toPW ds with
    | none => rw [hw] at hf; exact nomatch hf
    | some ws =>
      rw [hw] at hf
      dsimp only at hf
      by_cases hc : ws.Nodup ∧ ws.length ≤ 1000
      · rw [if_pos hc] at hf
        cases hf
        obtain ⟨ps, pr, hk⟩ := toPW_rp ra hw
        have hl : ps.length = ws.length := by
          have := congrArg List.length hk
          rw [List.length_map, List.length_map] at this
          exact this
        refine ⟨a, vs, ps, rfl, SqL.of (s _ _ ha), pr.mono s, ?_, by omega, fun d o hd => ?_⟩
        · rw [hk]
          exact List.Pairwise.map _ (fun a b hab z => hab (map_some_inj z)) hc.1
        · have e := newFrz (T := T) (o := o) (u := DicO d (ps.map fun x => (x.1, x.2, Value.bool true))) s nt hd
          refine q _ _ _ e (.wds ⟨o, _, upd_same, ?_, fun x hx => ?_⟩)
          · rw [List.map_map]
            exact hk
          · obtain ⟨y, hy, rfl⟩ := List.mem_map.mp hx
            obtain ⟨j, hj⟩ := List.getElem?_of_mem hy
            obtain ⟨t, _, _, h3⟩ := pr.get (p := y.1) (b := y.2) hj
            exact same_sqT e.mm h3
      · rw [if_neg hc] at hf
        exact nomatch hf
  | _ => exact nomatch hf
theorem b_dictW {k : Nat} (hr : Room k X.A) (hc : X.calm = true) (hm : X.mg "dict" = none) : Bt X T "dict" (c1 dDictW) := .ty (cr_dictW hc (by have := hr.un; omega)) cd_dictW (nx_c1 nx_dictW) hm (by decide +kernel) (by decide) (by decide)
/-! ### in -/
def rInW (K : PySem.W.Frag) : R2 := fun x y H Q => ∃ a b xs p, x = .ref b ∧ y = .ref a ∧ PGet K H a b xs p ∧ Q (.bl (atP xs p).isSome) H
theorem op_inW (hu : X.A.units + 1 < cLine) : OpR X (compareOp .In) (rInW X.K) := by
  intro pins s σ H x y v u Q I rx ry h
  obtain ⟨a, b, xs, p, rfl, rfl, g, q⟩ := h
  obtain rfl : u = Value.ref a := ry
  obtain rfl : v = Value.ref b := rx
  exact dic_in hu I g.1 g.2.1 g.2.2 fun s3 I3 => ⟨.bl _, H, I3, rfl, q⟩
def dInW : D → D → Out D
  | .tup xs, .wds ws => (match partOf xs with
    | some p => .ok (.bl (decide (p ∈ List.map (fun w : List Int => List.map some w) ws)))
    | none => .bad)
  | _, _ => .bad
theorem nx_inW : noX dInW := fun a b c h => by
  cases a with
  | tup xs =>
    cases b with
    | wds ws =>
      have h : (match (partOf xs : Option Part) with
        | some p => Out.ok (D.bl (decide (p ∈ List.map (fun w : List Int => List.map some w) ws)))
        | none => .bad) = .exc c := h
      cases hp : partOf xs with
      | none => rw [hp] at h; exact nomatch h
      | some p => rw [hp] at h; exact nomatch h
    | _ => exact nomatch h
  | _ => exact nomatch h
theorem atP_isSome {xs : List (Part × Addr × Value)} {p : Part} : (atP xs p).isSome = decide (p ∈ xs.map (·.1)) := by
  unfold atP
  rw [Option.isSome_map, Bool.eq_iff_iff, List.find?_isSome, decide_eq_true_iff, List.mem_map]
  constructor
  · rintro ⟨x, hx, e⟩
    exact ⟨x, hx, of_decide_eq_true e⟩
  · rintro ⟨x, hx, e⟩
    exact ⟨x, hx, decide_eq_true e⟩
theorem od_inW : OpD K mg T (rInW K) dInW := fun x y dx dy M H Q d s nt rx ry h q => by
  cases rx with
  | @tup b vs xs hb rb =>
    cases ry with
    | @wds a ws hw =>
      have h : (match (partOf xs : Option Part) with
        | some p => Out.ok (D.bl (decide (p ∈ List.map (fun w : List Int => List.map some w) ws)))
        | none => .bad) = .ok d := h
      cases hp : partOf xs with
      | none => rw [hp] at h; exact nomatch h
      | some p =>
        rw [hp] at h
        cases h
        obtain ⟨o, zs, h1, h2, h3⟩ := hw
        rw [part_vals rb hp] at hb
        refine ⟨a, b, zs, p, rfl, rfl, ⟨.inr ⟨o, s _ _ h1⟩, fun x hx => same_sqT s (h3 x hx), same_sqT s hb⟩, ?_⟩
        rw [atP_isSome, h2]
        exact q _ _ _ (Ext.refl s nt) (.bl _)
    | _ => exact nomatch h
  | _ => cases ry <;> exact nomatch h
theorem c_inW {k : Nat} (hr : Room k X.A) : Cm X T .In dInW := ⟨op_inW (by have := hr.un; omega), od_inW, nx_inW⟩
theorem e_bad {e : Expr} (h : PE X e (fun _ _ _ => False)) : PEm X T E e (fun _ => .bad) := weakE h fun σ H Q h => by
  obtain ⟨_, _, _, _, f⟩ := h
  exact f
end FL
set_option Elab.async false
set_option linter.all false
set_option maxRecDepth 100000
set_option maxHeartbeats 4000000
/-! a plan is made -/
namespace FL
open PySem PySem.Spec PyProof.Rows L2 LamX
variable {X : Cx} {K : PySem.W.Frag} {mg : Str → Option Value} {T : Tb} {E : XK} {M M0 M1 H H0 H1 Hb : Hp} {Γ : Env} {σ : L2.St}
/-! ### rules over the hand layer -/
def gFld (K : PySem.W.Frag) (ta : TE) (f : Str) : TG := fun v σ H Q => ta σ H fun y H1 => ∃ a C dx fs, y = .ref a ∧ H1 a = some (.ins C dx fs) ∧ Cls K C ∧ NoAttr K C f ∧ fs.length < 1000 ∧ Q σ (upd H1 a (.ins C dx (putF f v fs)))
theorem pg_fld {o : Expr} {f : Str} {ta : TE} {pos : Pos} (ho : PE X o ta) : PG X (.Attribute o f pos) (gFld X.K ta f) := by
  refine ⟨fun pins s σ H v u Q I r h => ?_⟩
  refine PySem.W.kas_attr (thn (ho.run pins s σ H _ I h) fun ov s1 ⟨y, H1, I1, ry, a, C, dx, fs, ey, ea, c, n, l, q⟩ => ?_)
  subst ey
  obtain rfl : ov = Value.ref a := ry
  exact setattr_ok I1 ea c n l r fun s2 I2 => ⟨σ, _, I2, q⟩
def tDNewP : TE := fun _ H Q => ∀ p, H p = none → Q (.ref p) (upd H p (DicO p []))
theorem pe_dnewP {pos : Pos} : PE X (.Dict [] [] pos) tDNewP := ⟨fun pins s σ H Q I h =>
  wpAny_Dict_empty ⟨.ref s.heap.objs.size, _, I.laid (a := s.heap.objs.size) (o := DicO s.heap.objs.size []) (t' := s.toks) (fun _ _ q => Heap.get?_push_of_some _ q) (Nat.le_refl _) (by
    refine ⟨⟨beq_eq_false_iff_ne.mpr (Ne.symm (Nat.ne_of_lt I.big)), Nat.zero_le _, _, #[], 0, Heap.get?_push_size _ rfl, ⟨rfl, rfl, rfl⟩, rfl, rfl, List.nodup_nil⟩, ⟨_, Heap.get?_push_size _ rfl⟩, fun k1 k2 z hz => ?_⟩
    obtain ⟨z1, z2, o', es', ep', w1, w2⟩ := z
    exact ⟨z1, z2, o', es', ep', hz o' w1, w2⟩), rfl, h _ (I.hok.fresh (Nat.le_refl _))⟩⟩
/-- an instance told anew -/
def tRed (t : TS) : TS := fun D σ H => t { D with nx := fun σ' H' => ∃ x C dx fs fs', H' x = some (.ins C dx fs) ∧ (∀ f, fs'.lookup f = fs.lookup f) ∧ fs'.length ≤ 1000 ∧ (∀ y ∈ fs.map (·.1), y ∈ fs'.map (·.1)) ∧ D.nx σ' (upd H' x (.ins C dx fs')) } σ H
theorem ps_red {st : Stmt} {t : TS} (h : PS X st t) : PS X st (tRed t) := by
  refine ⟨fun pins s σ H D I hq => thn (h.run pins s σ H _ I hq) fun f s1 q => ?_⟩
  cases f with
  | next =>
    obtain ⟨σ', H', I', x, C, dx, fs, fs', hx, hl, hn, hk, q⟩ := q
    refine ⟨σ', _, ?_, q⟩
    obtain ⟨ho, _, ne, ob, mA, ns, rel, wi⟩ := I'.hok x _ hx
    have hd : ∃ u, s1.heap.get? dx = some u := let ⟨o, _, _, e', _⟩ := ns; ⟨o, e'⟩
    have := I'.write (x := x) (e := dx) (o := .ins C dx fs') (h' := s1.heap) (t' := s1.toks) (by rw [hx]; exact True.intro) (.inr ho) (fun b u _ z => z) hd ⟨by rw [upd_ne ne]; exact ho, hn, ne, ob, mA, ns, fun f => by rw [hl f]; exact rel f, fun y hy => hk y (wi y hy)⟩
    exact this
  | brk => exact q
  | cont => exact q
  | ret u => exact q
/-! ### while it is made -/
structure Ini (K : PySem.W.Frag) (mg : Str → Option Value) (T : Tb) (M0 Hb H0 : Hp) (x C dx : Addr) (M H : Hp) (Γ : Env) (σ : L2.St) (fs : List (Str × V)) : Prop where
  e : Ext T M0 Hb M H
  r : Rs K mg T H0 M H Γ σ
  hx : H x = some (.ins C dx fs)
  nx : M x = none
  bx : Hb x = none
  s0 : σ[0]? = some (some (.ref x))
  dt : ∀ (j : Nat) t, Γ[j]? = some (some t) → ∃ d, t = .dat d
section
variable {x C dx : Addr} {fs : List (Str × V)}
theorem Ini.go (i : Ini K mg T M0 Hb H0 x C dx M H Γ σ fs) (e : Ext T M H M1 H1) : Ini K mg T M0 Hb H0 x C dx M1 H1 Γ σ fs := by
  obtain ⟨h1, h2⟩ := e.out i.nx i.hx True.intro
  exact ⟨i.e.trans e, i.r.ext e, h2, h1, i.bx, i.s0, i.dt⟩
theorem Ini.ext (i : Ini K mg T M0 Hb H0 x C dx M H Γ σ fs) (fs' : List (Str × V)) : Ext T M0 Hb M (upd H x (.ins C dx fs')) where
  kp := fun b o hb k => by rw [upd_ne (ne_of_none hb i.bx)]; exact i.e.kp b o hb k
  ke := fun b φ hb => by rw [upd_ne (ne_of_none hb i.bx)]; exact i.e.ke b φ hb
  tb := fun h p hp => by
    obtain ⟨ps, h1, h2, h3⟩ := i.e.tb h p hp
    refine ⟨ps, ?_, h2, fun pos cv hc => ?_⟩
    · rw [upd_ne (ne_of h1 i.hx (fun z => by cases z))]
      exact h1
    · obtain ⟨cc, e1, hc⟩ := h3 pos cv hc
      refine ⟨cc, e1, ?_⟩
      rw [upd_ne (ne_of hc i.hx (fun z => by cases z))]
      exact hc
  mm := i.e.mm
  ms := fun b o hb => by rw [upd_ne (ne_of_none hb i.nx)]; exact i.e.ms b o hb
  nt := ⟨i.e.nt.kd, i.e.nt.pl.upd1 i.hx (fun _ z => by cases z) (fun _ _ z => by cases z) (fun _ z => by cases z)⟩
  nw := i.e.nw
  nm := i.e.nm
theorem Ini.put (i : Ini K mg T M0 Hb H0 x C dx M H Γ σ fs) (fs' : List (Str × V)) : Ini K mg T M0 Hb H0 x C dx M (upd H x (.ins C dx fs')) Γ σ fs' where
  e := i.ext fs'
  r := {
    ms := (i.ext fs').ms
    nt := (i.ext fs').nt
    tb := fun p hp => by
      obtain ⟨ps, h1, h2, h3⟩ := i.r.tb p hp
      refine ⟨ps, ?_, h2, fun pos cv hc => ?_⟩
      · rw [upd_ne (ne_of h1 i.hx (fun z => by cases z))]
        exact h1
      · obtain ⟨cc, e1, hc⟩ := h3 pos cv hc
        refine ⟨cc, e1, ?_⟩
        rw [upd_ne (ne_of hc i.hx (fun z => by cases z))]
        exact hc
    len := i.r.len
    slt := fun j t hj => by
      obtain ⟨v, h1, h2⟩ := i.r.slt j t hj
      obtain ⟨d, rfl⟩ := i.dt j t hj
      exact ⟨v, h1, h2⟩
    dj := fun j k t u v w a q1 q2 q3 q4 o1 o2 => by
      obtain ⟨d, rfl⟩ := i.dt j t q1
      exact o1.elim }
  hx := upd_same
  nx := i.nx
  bx := i.bx
  s0 := i.s0
  dt := i.dt
theorem Ini.set (i : Ini K mg T M0 Hb H0 x C dx M H Γ σ fs) (j : Nat) (hj : j ≠ 0) {v : V} {d : D} (h : Rp K mg M v d) : Ini K mg T M0 Hb H0 x C dx M H (Γ.set j (some (.dat d))) (σ.set j (some v)) fs :=
  ⟨i.e, i.r.set j h, i.hx, i.nx, i.bx, by rw [List.getElem?_set_ne hj]; exact i.s0, fun k t q => by
    rcases set_get q with ⟨_, _, z⟩ | ⟨_, q⟩
    · cases z
      exact ⟨d, rfl⟩
    · exact i.dt k t q⟩
theorem pf_look (L n : Nat) (wd c d : Addr) (ws : List (List Int)) (f : Str) : (pf L n wd c d ws).lookup f = ([(("letters" : Str), V.int ((L : Nat) : Int)), ("long", V.int ((n : Nat) : Int)), ("words", V.ref wd), ("counts", V.ref c), ("depths", V.ref d)] : List (Str × V)).lookup f := by
  have aux : ∀ (zs : List Int), f ≠ "letters" → ((zs.map fun x => (("letters" : Str), V.int x)) : List (Str × V)).lookup f = none := fun zs hf => by
    induction zs with
    | nil => rfl
    | cons z zs ih => rw [List.map_cons, List.lookup_cons, beq_false_of_ne hf]; exact ih
  unfold pf
  by_cases h : f = "letters"
  · subst h
    rfl
  · simp only [List.cons_append, List.nil_append, List.lookup_cons, beq_false_of_ne h]
    rw [aux _ h]
    rfl
theorem flatten_len {n : Nat} : ∀ {ws : List (List Int)}, (∀ w ∈ ws, w.length = n) → ws.flatten.length = ws.length * n
  | [], _ => by simp
  | w :: ws, h => by
    rw [List.flatten_cons, List.length_append, h w List.mem_cons_self, flatten_len (fun v hv => h v (List.mem_cons_of_mem _ hv)), List.length_cons, Nat.succ_mul]
    omega
theorem pf_len {L n : Nat} {wd c d : Addr} {ws : List (List Int)} (k : KOk L n ws) : (pf L n wd c d ws).length ≤ 1000 := by
  unfold pf
  rw [List.length_append, List.length_map, flatten_len k.len]
  have := k.few
  simp only [List.length_cons, List.length_nil]
  omega
end
end FL
set_option Elab.async false
set_option linter.all false
set_option maxRecDepth 100000
set_option maxHeartbeats 4000000
/-! a plan is made: the promise -/
namespace FL
open PySem PySem.Spec PyProof.Rows L2 LamX
variable {X : Cx} {K : PySem.W.Frag} {mg : Str → Option Value} {T : Tb} {E : XK} {M M0 M1 H H0 H1 Hb : Hp} {Γ : Env} {σ : L2.St}
def wordsD (ws : List (List Int)) : List D := ws.map fun w => D.tup (w.map D.int)
def kindD (L n : Nat) (ws : List (List Int)) : D := .tup [.int (L : Nat), .int (n : Nat), .lst (wordsD ws)]
/-- the promise of a plan's __init__ -/
def spI (K : PySem.W.Frag) (mg : Str → Option Value) (T : Tb) (C : Addr) : Sp := fun vs H Q E => vs.length = 2 ∧ ∃ x dx Hb M L n ws kv, vs = [.ref x, kv] ∧ H = upd (upd Hb dx (.own x)) x (.ins C dx []) ∧ Hb x = none ∧ Hb dx = none ∧ dx ≠ x ∧ Tabs T Hb ∧ Same M Hb ∧ NoT T M Hb ∧
  Rp K mg M kv (kindD L n ws) ∧ KOk L n ws ∧ ∀ H' M', Ext T M Hb M' H' → Rp K mg M' (.ref x) (.pln L n ws) → Q .non H'
/-- all is laid: the plan becomes one that stays -/
theorem Ini.fin {x C dx wd c d : Addr} {L n : Nat} {ws : List (List Int)} {fs : List (Str × V)} {Hc Hd : Hp} (i : Ini K mg T M0 Hb H0 x C dx M H Γ σ fs) (hC : mg "Plan" = some (.ref C)) (hk : KOk L n ws) (hw : WdAt K M wd ws)
    (hc : H c = some (DicO c [])) (hd : H d = some (DicO d [])) (hcd : c ≠ d) (pc : PlanOk T M Hc) (nc : Hc c = none) (pd : PlanOk T M Hd) (nd : Hd d = none) (bc : ∀ φ, Hb c ≠ some (.ext φ)) (bd : ∀ φ, Hb d ≠ some (.ext φ)) :
    ∃ M', Ext T M0 Hb M' (upd H x (.ins C dx (pf L n wd c d ws))) ∧ Rp K mg M' (.ref x) (.pln L n ws) := by
  have i2 := i.put (pf L n wd c d ws)
  have mono : Same M (upd M x (.ins C dx (pf L n wd c d ws))) := same_upd i.nx
  have other : ∀ p' C' dx' L' n' wd' c' d' ws', M p' = some (.ins C' dx' (pf L' n' wd' c' d' ws')) → KOk L' n' ws' → (c' ≠ c ∧ d' ≠ c) ∧ (c' ≠ d ∧ d' ≠ d) := fun p' C' dx' L' n' wd' c' d' ws' h1 h2 => by
    have a1 := pc.at_ p' C' dx' L' n' wd' c' d' ws' h1 h2
    have a2 := pd.at_ p' C' dx' L' n' wd' c' d' ws' h1 h2
    obtain ⟨_, x1, _⟩ := a1.co
    obtain ⟨_, x2, _⟩ := a1.de
    obtain ⟨_, x3, _⟩ := a2.co
    obtain ⟨_, x4, _⟩ := a2.de
    exact ⟨⟨ne_of_none x1 nc, ne_of_none x2 nc⟩, ⟨ne_of_none x3 nd, ne_of_none x4 nd⟩⟩
  have cx : c ≠ x := ne_of hc i.hx (fun z => by cases z)
  have dxx : d ≠ x := ne_of hd i.hx (fun z => by cases z)
  have old : PlanOk T M (upd H x (.ins C dx (pf L n wd c d ws))) := i2.e.nt.pl
  refine ⟨upd M x (.ins C dx (pf L n wd c d ws)), ⟨i2.e.kp, i2.e.ke, i2.e.tb, i2.e.mm.trans mono, fun b o hb => ?_, ⟨fun b o hb => ?_, ⟨?_, ?_⟩⟩, fun b o hb => ?_, fun b hb => ?_⟩, .pln hC upd_same hk (hw.mono mono)⟩
  · by_cases q : b = x
    · subst q
      rw [upd_same] at hb ⊢
      exact hb
    · rw [upd_ne q] at hb
      exact i2.e.ms b o hb
  · by_cases q : b = x
    · subst q
      rw [upd_same] at hb
      cases hb
      exact True.intro
    · rw [upd_ne q] at hb
      exact i2.e.nt.kd b o hb
  · intro p' C' dx' L' n' wd' c' d' ws' h1 h2
    by_cases q : p' = x
    · subst q
      rw [upd_same] at h1
      have e2 := Option.some.inj h1
      injection e2 with e3 e4 e5
      obtain ⟨rfl, rfl, rfl, rfl, rfl, rfl⟩ := pf_inj hk h2 e5
      refine ⟨⟨[], by rw [upd_ne cx]; exact hc, ⟨List.nodup_nil, fun y hy => absurd hy (by simp)⟩, fun y hy => absurd hy (by simp)⟩, ⟨[], by rw [upd_ne dxx]; exact hd, ⟨List.nodup_nil, fun y hy => absurd hy (by simp)⟩, fun y hy => absurd hy (by simp)⟩, hcd⟩
    · rw [upd_ne q] at h1
      exact old.at_ p' C' dx' L' n' wd' c' d' ws' h1 h2
  · intro p C1 dx1 L1 n1 wd1 c1 d1 ws1 p' C' dx' L' n' wd' c' d' ws' h1 k1 h2 k2 hne
    by_cases q : p = x
    · subst q
      rw [upd_same] at h1
      have e2 := Option.some.inj h1
      injection e2 with e3 e4 e5
      obtain ⟨rfl, rfl, rfl, rfl, rfl, rfl⟩ := pf_inj hk k1 e5
      rw [upd_ne (Ne.symm hne)] at h2
      obtain ⟨⟨o1, o2⟩, o3, o4⟩ := other p' C' dx' L' n' wd' c' d' ws' h2 k2
      intro u hu v hv
      simp only [List.mem_cons, List.not_mem_nil, or_false] at hu hv
      rcases hu with rfl | rfl <;> rcases hv with rfl | rfl
      · exact Ne.symm o1
      · exact Ne.symm o2
      · exact Ne.symm o3
      · exact Ne.symm o4
    · rw [upd_ne q] at h1
      by_cases q' : p' = x
      · subst q'
        rw [upd_same] at h2
        have e2 := Option.some.inj h2
        injection e2 with e3 e4 e5
        obtain ⟨rfl, rfl, rfl, rfl, rfl, rfl⟩ := pf_inj hk k2 e5
        obtain ⟨⟨o1, o2⟩, o3, o4⟩ := other p C1 dx1 L1 n1 wd1 c1 d1 ws1 h1 k1
        intro u hu v hv
        simp only [List.mem_cons, List.not_mem_nil, or_false] at hu hv
        rcases hu with rfl | rfl <;> rcases hv with rfl | rfl
        · exact o1
        · exact o3
        · exact o2
        · exact o4
      · rw [upd_ne q'] at h2
        exact old.dj p C1 dx1 L1 n1 wd1 c1 d1 ws1 p' C' dx' L' n' wd' c' d' ws' h1 k1 h2 k2 hne
  · by_cases q : b = x
    · subst q
      exact .inr fun u hu => by
        rw [i.bx] at hu
        cases hu
    · rw [upd_ne q] at hb
      exact i2.e.nw b o hb
  · obtain ⟨p', C', dx', L', n', wd', c', d', ws', h1, h2, h3⟩ := hb
    by_cases q : p' = x
    · subst q
      rw [upd_same] at h1
      have e2 := Option.some.inj h1
      injection e2 with e3 e4 e5
      obtain ⟨rfl, rfl, rfl, rfl, rfl, rfl⟩ := pf_inj hk h2 e5
      rcases h3 with rfl | rfl
      · exact .inr bc
      · exact .inr bd
    · rw [upd_ne q] at h1
      exact i2.e.nm b ⟨p', C', dx', L', n', wd', c', d', ws', h1, h2, h3⟩
theorem plF {fs : List (Str × V)} {f : Str} {v : V} {m : Nat} (h : fs.length ≤ m) : (putF f v fs).length ≤ m + 1 := Nat.le_trans (length_putF f v fs) (Nat.succ_le_succ h)
/-- the body of __init__, read -/
def tIni (K : PySem.W.Frag) (tw : TE) : TS :=
  tSeq (tAsg (tVar 1) (gTup K 3 (gCons (gFld K (tVar 0) "letters") (gCons (gFld K (tVar 0) "long") (gCons (gName 2) gNil))))) (tSeq (sFld K (tVar 0) tw "words") (tSeq (sFld K (tVar 0) tDNewP "counts") (tRed (sFld K (tVar 0) tDNewP "depths"))))
theorem kind_rp {kv : V} {L n : Nat} {ws : List (List Int)} (h : Rp K mg M kv (kindD L n ws)) : ∃ a v3, kv = .ref a ∧ SqT K M a [.int (L : Nat), .int (n : Nat), v3] ∧ Rp K mg M v3 (.lst (wordsD ws)) := by
  cases h with
  | @tup a vs ds ha r =>
    cases r with
    | cons r1 t1 =>
      cases t1 with
      | cons r2 t2 =>
        cases t2 with
        | cons r3 t3 =>
          cases t3
          cases r1
          cases r2
          exact ⟨a, _, rfl, ha, r3⟩
theorem ini_t {C : Addr} {mW : Env → Out D} {vs : List V} {Q : VK} {N : List Str} (hN : N.length = 4) (c : PlC K mg C) (hW : ∀ x L n ws, KOk L n ws → mW [some (.dat (.opq x)), some (.dat (kindD L n ws)), some (.dat (.lst (wordsD ws))), none] = .ok (.wds ws)) (h : spI K mg T C vs H Q E) :
    tIni K (tOf K mg T E mW) { nx := fun _ H' => Q .non H', rt := Q } (L2.start N vs) H := by
  obtain ⟨_, x, dx, Hb, M, L, n, ws, kv, rfl, rfl, bx, bdx, hne, tb, ms, nt, rk, hk, q⟩ := h
  have mx : M x = none := by
    cases e : M x with
    | none => rfl
    | some u => rw [ms x u e] at bx; cases bx
  have s1 : Same Hb (upd Hb dx (.own x)) := same_upd bdx
  have s2 : Same (upd Hb dx (.own x)) (upd (upd Hb dx (.own x)) x (.ins C dx [])) := same_upd (by rw [upd_ne (Ne.symm hne)]; exact bx)
  have ss := s1.trans s2
  have e0 : Ext T M Hb M (upd (upd Hb dx (.own x)) x (.ins C dx [])) := Ext.grow ms nt ss
  have r0 := Rs.start (N := N) (vs := [.ref x, kv]) (ds := [.opq x, kindD L n ws]) e0.ms e0.nt (e0.tb tb) (.cons (.opq x) (.cons rk .nil))
  have eΓ : ([D.opq x, kindD L n ws].map (fun d => some (Sl.dat d)) ++ List.replicate (N.length - ([V.ref x, kv] : List V).length) none) = [some (.dat (.opq x)), some (.dat (kindD L n ws)), none, none] := by
    rw [hN]
    rfl
  rw [eΓ] at r0
  have i0 : Ini K mg T M Hb _ x C dx M _ _ (L2.start N [.ref x, kv]) [] := ⟨e0, r0, upd_same, mx, bx, rfl, fun j t q => by
    match j, q with
    | 0, q => cases q; exact ⟨_, rfl⟩
    | 1, q => cases q; exact ⟨_, rfl⟩
    | 2, q => cases q
    | 3, q => cases q
    | n + 4, q => cases q⟩
  obtain ⟨a, v3, rfl, ha, r3⟩ := kind_rp rk
  refine ⟨.ref a, rfl, a, [.int (L : Nat), .int (n : Nat), v3], rfl, same_sqT e0.ms ha, rfl, _, _, rfl, .ref x, i0.s0, x, C, dx, _, rfl, i0.hx, c.cls, c.n1, by decide, ?_⟩
  have i1 := i0.put (putF "letters" (.int (L : Nat)) [])
  refine ⟨_, _, rfl, .ref x, i1.s0, x, C, dx, _, rfl, i1.hx, c.cls, c.n2, Nat.lt_of_le_of_lt (plF (Nat.le_refl 0)) (by decide), ?_⟩
  have i2 := i1.put (putF "long" (.int (n : Nat)) (putF "letters" (.int (L : Nat)) []))
  refine ⟨_, _, rfl, rfl, ?_⟩
  have i3 := i2.set 2 (by decide) r3
  refine ⟨_, M, _, i3.r, ?_⟩
  show Fin K mg T M _ _ E (mW [some (.dat (.opq x)), some (.dat (kindD L n ws)), some (.dat (.lst (wordsD ws))), none])
  rw [hW x L n ws hk]
  intro vw H4 M4 e4 rw4
  have i4 := i3.go e4
  cases rw4 with
  | @wds wd _ hwd =>
    refine ⟨.ref x, i4.s0, x, C, dx, _, rfl, i4.hx, c.cls, c.n3, Nat.lt_of_le_of_lt (plF (plF (Nat.le_refl 0))) (by decide), ?_⟩
    have i5 := i4.put (putF "words" (.ref wd) (putF "long" (.int (n : Nat)) (putF "letters" (.int (L : Nat)) [])))
    intro pc hpc
    have i6 := i5.go (Ext.grow i5.r.ms i5.r.nt (same_upd hpc (o := DicO pc [])))
    refine ⟨.ref x, i6.s0, x, C, dx, _, rfl, i6.hx, c.cls, c.n4, Nat.lt_of_le_of_lt (plF (plF (plF (Nat.le_refl 0)))) (by decide), ?_⟩
    have i7 := i6.put (putF "counts" (.ref pc) (putF "words" (.ref wd) (putF "long" (.int (n : Nat)) (putF "letters" (.int (L : Nat)) []))))
    intro pd hpd
    have i8 := i7.go (Ext.grow i7.r.ms i7.r.nt (same_upd hpd (o := DicO pd [])))
    refine ⟨.ref x, i8.s0, x, C, dx, _, rfl, i8.hx, c.cls, c.n5, Nat.lt_of_le_of_lt (plF (plF (plF (plF (Nat.le_refl 0))))) (by decide), ?_⟩
    have i9 := i8.put (putF "depths" (.ref pd) (putF "counts" (.ref pc) (putF "words" (.ref wd) (putF "long" (.int (n : Nat)) (putF "letters" (.int (L : Nat)) [])))))
    have pcx : pc ≠ x := by
      intro z
      subst z
      rw [i5.hx] at hpc
      cases hpc
    have pdx : pd ≠ x := by
      intro z
      subst z
      rw [i7.hx] at hpd
      cases hpd
    have pcd : pc ≠ pd := by
      intro z
      subst z
      rw [upd_ne pcx, upd_same] at hpd
      cases hpd
    obtain ⟨M', eF, rF⟩ := i9.fin (L := L) (n := n) (ws := ws) (wd := wd) (c := pc) (d := pd) c.gl hk hwd (by rw [upd_ne pcx, upd_ne pcd, upd_ne pcx, upd_same]) (by rw [upd_ne pdx, upd_same]) pcd i5.r.nt.pl hpc i7.r.nt.pl hpd (fun φ z => by
      obtain ⟨φ', z'⟩ := i5.e.ke' _ _ z
      rw [hpc] at z'
      cases z') (fun φ z => by
      obtain ⟨φ', z'⟩ := i7.e.ke' _ _ z
      rw [hpd] at z'
      cases z')
    refine ⟨x, C, dx, _, pf L n wd pc pd ws, i9.hx, fun f => pf_look L n wd pc pd ws f, pf_len hk, fun y hy => ?_, q _ M' eF rF⟩
    unfold pf
    rw [List.map_append]
    exact List.mem_append_left _ hy
end FL
set_option Elab.async false
set_option linter.all false
set_option maxRecDepth 100000
set_option maxHeartbeats 4000000
/-! Plan(kind) -/
namespace FL
open PySem PySem.Spec PyProof.Rows L2 LamX
variable {X : Cx} {K : PySem.W.Frag} {mg : Str → Option Value} {T : Tb} {E : XK} {M M0 M1 H H0 H1 Hb : Hp} {Γ : Env} {σ : L2.St}
theorem toInts_eq : ∀ {ds : List D} {ns : List Int}, toInts ds = some ns → ds = ns.map D.int
  | [], _, h => by cases h; rfl
  | .int i :: ds, ns, h => by
    unfold toInts at h
    obtain ⟨r, hr, rfl⟩ := Option.map_eq_some_iff.mp h
    rw [toInts_eq hr]
    rfl
  | .non :: _, _, h => by cases h
  | .bl _ :: _, _, h => by cases h
  | .str _ :: _, _, h => by cases h
  | .lst _ :: _, _, h => by cases h
  | .tup _ :: _, _, h => by cases h
  | .fn _ :: _, _, h => by cases h
  | .ty _ :: _, _, h => by cases h
  | .scr _ :: _, _, h => by cases h
  | .opq _ :: _, _, h => by cases h
  | .pln _ _ _ :: _, _, h => by cases h
  | .wds _ :: _, _, h => by cases h
  | .row _ :: _, _, h => by cases h
  | .dmp _ :: _, _, h => by cases h
  | .imp _ :: _, _, h => by cases h
theorem toWs_eq : ∀ {ds : List D} {ws : List (List Int)}, toWs ds = some ws → ds = wordsD ws
  | [], _, h => by cases h; rfl
  | d :: ds, ws, h => by
    cases d with
    | tup xs =>
      unfold toWs at h
      cases h1 : toInts xs with
      | none => rw [h1] at h; cases h
      | some w =>
        cases h2 : toWs ds with
        | none => rw [h1, h2] at h; cases h
        | some ws' =>
          rw [h1, h2] at h
          cases h
          rw [toInts_eq h1, toWs_eq h2]
          rfl
    | _ => cases h
open Classical in
noncomputable def planOf (L n : Int) (ds : List D) : Out D := match toWs ds with
  | some ws => if 0 ≤ L ∧ 0 ≤ n ∧ KOk L.toNat n.toNat ws then .ok (.pln L.toNat n.toNat ws) else .bad
  | none => .bad
noncomputable def dPlan : D → Out D
  | .tup [.int L, .int n, .lst ds] => planOf L n ds
  | _ => .bad
theorem planOf_ok {L n : Int} {ds : List D} {d : D} (h : planOf L n ds = .ok d) : ∃ (l k : Nat) (ws : List (List Int)), L = (l : Nat) ∧ n = (k : Nat) ∧ ds = wordsD ws ∧ KOk l k ws ∧ d = .pln l k ws := by
  unfold planOf at h
  cases hw : toWs ds with
  | none => rw [hw] at h; cases h
  | some ws =>
    rw [hw] at h
    dsimp only at h
    by_cases hc : 0 ≤ L ∧ 0 ≤ n ∧ KOk L.toNat n.toNat ws
    · rw [if_pos hc] at h
      cases h
      exact ⟨_, _, ws, by omega, by omega, toWs_eq hw, hc.2.2, rfl⟩
    · rw [if_neg hc] at h
      cases h
theorem planOf_exc {L n : Int} {ds : List D} {c : Str} (h : planOf L n ds = .exc c) : False := by
  unfold planOf at h
  cases hw : toWs ds with
  | none => rw [hw] at h; cases h
  | some ws =>
    rw [hw] at h
    dsimp only at h
    by_cases hc : 0 ≤ L ∧ 0 ≤ n ∧ KOk L.toNat n.toNat ws
    · rw [if_pos hc] at h
      cases h
    · rw [if_neg hc] at h
      cases h
theorem dPlan_cases (d : D) : (∃ L n ds, d = .tup [.int L, .int n, .lst ds]) ∨ dPlan d = .bad := by
  unfold dPlan
  split
  · exact .inl ⟨_, _, _, rfl⟩
  · exact .inr rfl
theorem dPlan_ok {d e : D} (h : dPlan d = .ok e) : ∃ l k ws, d = kindD l k ws ∧ KOk l k ws ∧ e = .pln l k ws := by
  rcases dPlan_cases d with ⟨L, n, ds, rfl⟩ | h2
  · obtain ⟨l, k, ws, rfl, rfl, rfl, hk, rfl⟩ := planOf_ok (show planOf L n ds = .ok e from h)
    exact ⟨l, k, ws, rfl, hk, rfl⟩
  · rw [h2] at h
    cases h
theorem nx_plan : noX1 dPlan := fun d c h => by
  rcases dPlan_cases d with ⟨L, n, ds, rfl⟩ | h2
  · exact planOf_exc (show planOf L n ds = .exc c from h)
  · rw [h2] at h
    cases h
/-- the class may be made -/
def MkI (P : Program) (w : World) (K : PySem.W.Frag) (mg : Str → Option Value) (base : Heap) (T : Tb) (C : Addr) (k : Nat) : Prop :=
  ∃ (a : Addr) (fd : FuncData) (ps : List Str), Mk K C a ∧ Binds K fd ps [] ∧ FnOk P w K mg base (L2N.CX P w) k a fd ps (spI K mg T C)
theorem MkI.mono {P : Program} {w : World} {base : Heap} {C : Addr} {j k : Nat} (h : MkI P w K mg base T C j) (hj : j ≤ k) : MkI P w K mg base T C k := by
  obtain ⟨a, fd, ps, h1, h2, h3⟩ := h
  exact ⟨a, fd, ps, h1, h2, h3.mono hj⟩
theorem e_plan {C : Addr} {k : Nat} {e : Expr} {m : Env → Out D} {p pos : Pos} (c : PlC X.K X.mg C) (F : MkI X.prog X.w X.K X.mg X.base T C k) (hr : Room (k + 1) X.A) (hx : Passes (L2N.CX X.prog X.w) X E) (hg : Gl X "Plan") (ha : PEm X T E e m)
    (he : starEach [e] X.env = (false, eval e X.env) :: starEach [] X.env := by rfl) : PEm X T E (.Call (.Name "Plan" p) [e] [] pos) (m1 dPlan m) := by
  obtain ⟨a, fd, ps, h1, h2, h3⟩ := F
  refine weakE (pe_make h1 h3 hr hg c.gl h2 .nil hx (a_cons ha a_nil he) (by decide) he rfl) fun σ H Q h => ?_
  obtain ⟨Γ, M, H0, r, f0⟩ := h
  have f0 : Fin X.K X.mg T M H Q E ((m Γ).bind dPlan) := f0
  refine ⟨Γ, M, H0, r, ?_⟩
  show FinA X.K X.mg T M H _ E ((m Γ).bind fun d => (mNil Γ).bind fun ds => .ok (d :: ds))
  cases q : m Γ with
  | bad =>
    rw [q] at f0
    exact f0.elim
  | exc z =>
    rw [q] at f0
    exact f0
  | ok d =>
    rw [q] at f0
    intro vs H1 M1 e1 r1
    cases r1 with
    | cons r1 t1 =>
      cases t1
      have f1 : Fin X.K X.mg T M H Q E (dPlan d) := f0
      have rs := r.ext e1
      cases q2 : dPlan d with
      | bad => rw [q2] at f1; exact f1.elim
      | exc z => exact (nx_plan d z q2).elim
      | ok dd =>
        rw [q2] at f1
        obtain ⟨l, k, ws, rfl, hk, rfl⟩ := dPlan_ok q2
        intro x dx bx bdx hne
        refine ⟨rfl, x, dx, H1, M1, l, k, ws, _, rfl, rfl, bx, bdx, hne, rs.tb, rs.ms, rs.nt, r1, hk, fun H' M' e2 r2 => ⟨rfl, f1 _ _ _ (e1.trans e2) r2⟩⟩
/-- THE RULE for a plan's __init__ -/
theorem def_okI {P : Program} {w : World} {base : Heap} {C : Addr} {x q : Str} {params : Arguments} {body : List Stmt} {scope : Scope} {a : Addr} {fd : FuncData} {N ps : List Str} {k : Nat} {mW : Env → Out D} (c : PlC K mg C) (hm : Mk K C a) (F : FunD K x q params body scope [] [] a fd) (S : FnScope N ps scope) (hn : ps.length = 2) (hN : N.length = 4)
    (hb : ∀ (kV doc pm : Value) (an : Option Addr) (cdv ct : Value) (us : List Value), us.length = ps.length → bindArgs (PySem.W.fnOf x q params body scope .none kV doc pm an cdv ct) ⟨us, []⟩ = pure (ps.zip us))
    (hW : ∀ x L n ws, KOk L n ws → mW [some (.dat (.opq x)), some (.dat (kindD L n ws)), some (.dat (.lst (wordsD ws))), none] = .ok (.wds ws))
    (hbody : ∀ (cdv : Value) (A : Around) (outer : List PySem.Env) (s : Shared) (H : Hp) (E : XK), Room k (A.deeper (envOfC q scope s.heap.objs.size a cdv)) →
      PSs (cxOf (L2N.CX P w) P w K mg base N q scope a cdv A outer s H E) body (tIni K (tOf K mg T E mW))) : MkI P w K mg base T C (k + 1) :=
  ⟨a, fd, ps, hm, F.bindsN hb, F.ok S (fun vs H Q E h => h.1.trans hn.symm) fun cdv A outer s H vs Q E hr h => ⟨_, hbody cdv A outer s H E hr, ini_t hN c hW h⟩⟩
/-- the body of a plan's __init__ -/
theorem ss_ini {W : Expr} {mW : Env → Out D} {p1 p2 p3 p4 p5 p6 p7 p8 p9 p10 p11 p12 p13 p14 p15 : Pos} {k} (nd : X.N.Nodup) (hW : PEm X T E W mW) (hc : X.calm = true) (h0 : X.N[0]? = some ("self" : Str) := by rfl) (h1 : X.N[1]? = some ("kind" : Str) := by rfl) (h2 : X.N[2]? = some ("words" : Str) := by rfl)
    (v0 : Vis X.env.scope "self" := by first | exact Or.inl rfl | exact Or.inr (Or.inl rfl) | exact Or.inr (Or.inr rfl)) (v1 : Vis X.env.scope "kind" := by first | exact Or.inl rfl | exact Or.inr (Or.inl rfl) | exact Or.inr (Or.inr rfl))
    (l2 : Loc X.env.scope "words" := by first | exact Or.inl rfl | exact Or.inr rfl) (f2 : X.fn "words" = true ∨ X.env.scope.names.lookup ("words" : Str) = some .local := by first | exact .inl rfl | exact .inr rfl)
    (a1 : swapsWithSole [.Tuple [.Attribute (.Name "self" p1) "letters" p2, .Attribute (.Name "self" p3) "long" p4, .Name "words" p5] k p6] (.Name "kind" p7) p8.line X.env = pure false := by rfl) (a2 : swappedStores [.Tuple [.Attribute (.Name "self" p1) "letters" p2, .Attribute (.Name "self" p3) "long" p4, .Name "words" p5] k p6] (.Name "kind" p7) X.env = pure none := by rfl)
    (a3 : (assignEach [.Tuple [.Attribute (.Name "self" p1) "letters" p2, .Attribute (.Name "self" p3) "long" p4, .Name "words" p5] k p6] X.env).map (·.2) = [assign (.Tuple [.Attribute (.Name "self" p1) "letters" p2, .Attribute (.Name "self" p3) "long" p4, .Name "words" p5] k p6) X.env] := by rfl)
    (b1 : swapsWith W (some (.Attribute (.Name "self" p9) "words" p10)) p11.line X.env = pure false := by rfl) (b2 : swapsWith (.Dict [] [] p14) (some (.Attribute (.Name "self" p12) "counts" p13)) p15.line X.env = pure false := by rfl) (b3 : ∀ q1 q2 q3 (q4 : Pos), swapsWith (.Dict [] [] q3) (some (.Attribute (.Name "self" q1) "depths" q2)) q4.line X.env = pure false := by intros; rfl) {q1 q2 q3 q4 : Pos} :
    PSs X [.Assign [.Tuple [.Attribute (.Name "self" p1) "letters" p2, .Attribute (.Name "self" p3) "long" p4, .Name "words" p5] k p6] (.Name "kind" p7) p8, .Assign [.Attribute (.Name "self" p9) "words" p10] W p11, .Assign [.Attribute (.Name "self" p12) "counts" p13] (.Dict [] [] p14) p15, .Assign [.Attribute (.Name "self" q1) "depths" q2] (.Dict [] [] q3) q4] (tIni X.K (tOf X.K X.mg T E mW)) :=
  pss_cons (ps_asg (pe_var h1 v1) (pg_tup hc (pgs_cons (pg_fld (pe_var h0 v0)) (pgs_cons (pg_fld (pe_var h0 v0)) (pgs_cons (pg_name nd h2 l2 f2) pgs_nil)))) a1 a2 a3)
    (pss_cons (ps_fld (pe_var h0 v0) hW b1) (pss_cons (ps_fld (pe_var h0 v0) pe_dnewP b2) (pss_one (ps_red (ps_fld (pe_var h0 v0) pe_dnewP (b3 _ _ _ _))))))
end FL
set_option Elab.async false
set_option linter.all false
set_option maxRecDepth 100000
set_option maxHeartbeats 4000000
/-! rows: tuples of whole numbers and None that are known to have no dict -/
namespace FL
open PySem PySem.Spec PyProof.Rows L2 LamX
variable {X : Cx} {K : PySem.W.Frag} {mg : Str → Option Value} {T : Tb} {E : XK} {M M0 M1 H H0 H1 Hb : Hp} {Γ : Env} {σ : L2.St}
/-! ### over the hand layer -/
def tTupF (t : TA) : TE := fun σ H Q => t σ H fun xs H1 => xs.length ≤ sizeLine ∧ ∀ p o, H1 p = none → o.dict = none → Q (.ref p) (upd H1 p (.frz o (.tup xs)))
theorem pe_tupF {x1} {es : List Expr} {t : TA} {pos : Pos} (h : PA X es t) : PE X (.Tuple es x1 pos) (tTupF t) := by
  refine ⟨fun pins s σ H Q I hq => ?_⟩
  refine wpAny_Tuple_spliced (thn (h.run pos pins s σ H _ I hq) fun us s1 ⟨xs, H1, I1, r, z, q⟩ => ⟨by rw [← r.length]; exact z, ?_⟩)
  have hf : H1 s1.heap.objs.size = none := I1.hok.fresh (Nat.le_refl _)
  exact ⟨.ref s1.heap.objs.size, upd H1 s1.heap.objs.size (.frz { cls := .type "tuple", data := .seq us.toArray } (.tup xs)), I1.laid (t' := s1.toks) (fun b u e => Heap.get?_push_of_some _ e) (Nat.le_refl _) ⟨Heap.get?_push_size _ rfl, z, us, r, ⟨_, Heap.get?_push_size _ rfl, rfl, _, rfl⟩⟩, rfl, q _ _ hf rfl⟩
def rCatF (K : PySem.W.Frag) : R2 := fun x y H Q => ∃ a b xs ys, x = .ref a ∧ y = .ref b ∧ SqT K H a xs ∧ SqT K H b ys ∧ xs.length + ys.length ≤ sizeLine ∧
  (xs = [] → Q (.ref b) H) ∧ (xs ≠ [] → ys = [] → Q (.ref a) H) ∧ (xs ≠ [] → ys ≠ [] → ∀ p o, H p = none → o.dict = none → Q (.ref p) (upd H p (.frz o (.tup (xs ++ ys)))))
theorem op_catF : OpR X (binaryOp .Add) (rCatF X.K) := by
  intro pins s σ H x y v u Q I rx ry h
  obtain ⟨a, b, xs, ys, rfl, rfl, ha, hb, hz, q0, q1, q2⟩ := h
  by_cases hx : xs = []
  · subst hx
    cases rx
    cases ry
    obtain ⟨its, r1, p1, _⟩ := I.tuple ha
    obtain ⟨its2, r2, p2, _⟩ := I.tuple hb
    cases r1
    exact cat_tup0 p1 p2 ⟨.ref b, H, I, rfl, q0 rfl⟩
  · cases rx
    cases ry
    obtain ⟨its, r1, p1, _⟩ := I.tuple ha
    obtain ⟨its2, r2, p2, _⟩ := I.tuple hb
    refine HT.cat_tup p1 p2 (fun z => hx (r1.nil_iff.mp z)) (fun z => ⟨.ref a, H, I, rfl, q1 hx (r2.nil_iff.mp z)⟩) (fun z => ?_) (by rw [← r1.length, ← r2.length]; exact hz)
    exact ⟨.ref s.heap.objs.size, _, I.laid (t' := s.toks) (o := .frz { cls := .type "tuple", data := .seq (its ++ its2).toArray } (.tup (xs ++ ys))) (fun b ob q => Heap.get?_push_of_some _ q) (Nat.le_refl _) ⟨Heap.get?_push_size _ rfl, by rw [List.length_append]; exact hz, _, r1.append r2, IsTup.new _ _⟩, rfl, q2 hx (fun w => z (r2.nil_iff.mpr w)) _ _ (I.hok.fresh (Nat.le_refl _)) rfl⟩
def rSlF (K : PySem.W.Frag) : V → Option Int → Option Int → Hp → VK → Prop := fun x lo hi H Q => ∃ a xs, x = .ref a ∧ SqT K H a xs ∧
  (HT.sIx xs.length 0 lo = 0 ∧ HT.sIx xs.length xs.length hi = xs.length → Q (.ref a) H) ∧ (¬ (HT.sIx xs.length 0 lo = 0 ∧ HT.sIx xs.length xs.length hi = xs.length) → ∀ p o, H p = none → o.dict = none → Q (.ref p) (upd H p (.frz o (.tup (cutV xs lo hi)))))
theorem sl_tupF : SlR X (rSlF X.K) := by
  intro pins s σ H x v vl vu lo hi sl Q I rx hs pl pu h
  obtain ⟨a, xs, rfl, hx, q1, q2⟩ := h
  cases rx
  obtain ⟨its, r, ht, hz⟩ := I.tuple hx
  have hlen : its.toArray.size = xs.length := by rw [List.size_toArray]; exact r.length.symm
  refine ⟨"tuple", _, PyProof.Rows.slot_tuple_getitem.lookup, ht.typeIs, ?_⟩
  by_cases hw : HT.sIx xs.length 0 lo = 0 ∧ HT.sIx xs.length xs.length hi = xs.length
  · exact getItem_tuple_whole ht hs pl pu (by rw [hlen]; exact hw) ⟨.ref a, H, I, rfl, q1 hw⟩
  · refine HT.getItem_tuple_cut ht hs pl pu (by rw [hlen]; exact hw) ?_ (by rw [hlen]; exact hz)
    rw [hlen]
    exact ⟨.ref s.heap.objs.size, _, I.laid (t' := s.toks) (o := .frz _ (.tup (cutV xs lo hi))) (fun b ob q => Heap.get?_push_of_some _ q) (Nat.le_refl _) ⟨Heap.get?_push_size _ rfl, Nat.le_trans (cutV_length xs lo hi) hz, _, (r.drop (HT.sIx xs.length 0 lo)).take (HT.sIx xs.length xs.length hi - HT.sIx xs.length 0 lo), IsTup.new _ _⟩, rfl, q2 hw _ _ (I.hok.fresh (Nat.le_refl _)) rfl⟩
def rTupleF (K : PySem.W.Frag) : List V → Hp → VK → Prop := fun xs H Q => ∃ p ys, xs = [.ref p] ∧ SqL K H p ys ∧ ∀ l o, H l = none → o.dict = none → Q (.ref l) (upd H l (.frz o (.tup ys)))
theorem call_tupleF : CallR X (.type "tuple") (rTupleF X.K) := by
  intro pins s σ H xs us Q I r h
  obtain ⟨p, ys, rfl, hq, q⟩ := h
  obtain ⟨u, rfl, rx⟩ := vals1 r
  cases rx
  obtain ⟨its, r', pl, hz⟩ := I.list hq
  have hlen := r'.length
  refine call_tuple_list pl.isList (fun h' kp => ?_) (by simp only [List.size_toArray] <;> omega)
  have I1 : Inv X pins σ H { s with heap := h' } := I.kept (t' := s.toks) kp
  have I2 : Inv X pins σ (upd H h'.objs.size (.frz { cls := .type "tuple", data := .seq its.toArray } (.tup ys))) { s with heap := h'.push { cls := .type "tuple", data := .seq its.toArray } } :=
    I1.laid (t' := s.toks) (fun b o e => Heap.get?_push_of_some _ e) (Nat.le_refl _) ⟨Heap.get?_push_size _ rfl, hz, its, r', IsTup.new _ _⟩
  exact ⟨.ref h'.objs.size, _, I2, rfl, q _ _ (I1.hok.fresh (Nat.le_refl _)) rfl⟩
end FL
set_option Elab.async false
set_option linter.all false
set_option maxRecDepth 100000
set_option maxHeartbeats 4000000
/-! rows as data -/
namespace FL
open PySem PySem.Spec PyProof.Rows L2 LamX
variable {X : Cx} {K : PySem.W.Frag} {mg : Str → Option Value} {T : Tb} {E : XK} {M M0 M1 H H0 H1 Hb : Hp} {Γ : Env} {σ : L2.St}
theorem RowAt.sq {a : Addr} {p : Part} (h : RowAt M a p) : SqT K M a (p.map leafV) := by
  obtain ⟨o, h1, _⟩ := h
  exact .inl (.inr ⟨o, h1⟩)
theorem newRow {a : Addr} {o : Obj} {p : Part} (s : Same M H) (nt : NoT T M H) (hp : H a = none) (ho : o.dict = none) : ∃ M', Ext T M H M' (upd H a (.frz o (.tup (p.map leafV)))) ∧ Rp K mg M' (.ref a) (.row p) :=
  ⟨_, newFrz s nt hp, .row ⟨o, upd_same, ho⟩⟩
/-! ### a row seen as a tuple -/
def rowD (x : Option Int) : D := match x with
  | none => .non
  | some i => .int i
theorem pD_eq (p : Part) : pD p = .tup (p.map rowD) := rfl
theorem rowD_rp : ∀ p : Part, RpL K mg M (p.map leafV) (p.map rowD)
  | [] => .nil
  | none :: p => .cons .non (rowD_rp p)
  | some i :: p => .cons (.int i) (rowD_rp p)
def wk : D → Out D
  | .row p => .ok (.tup (p.map rowD))
  | d => .ok d
theorem nx_wk : ∀ d c, wk d ≠ .exc c := fun d c h => by cases d <;> cases h
theorem e_wk {e : Expr} {m : Env → Out D} (h : PEm X T E e m) : PEm X T E e (m1 wk m) := weakE h fun σ H Q h => by
  obtain ⟨Γ, M, H0, r, f⟩ := h
  refine ⟨Γ, M, H0, r, Fin.bind f fun d v H1 M1 _ e1 r1 f1 => ?_⟩
  have rs := r.ext e1
  cases r1 with
  | @row a p hp => exact f1 _ _ _ rs.ext0 (.tup hp.sq (rowD_rp p))
  | non => exact f1 _ _ _ rs.ext0 .non
  | bl b => exact f1 _ _ _ rs.ext0 (.bl b)
  | int i => exact f1 _ _ _ rs.ext0 (.int i)
  | str x => exact f1 _ _ _ rs.ext0 (.str x)
  | lst a b => exact f1 _ _ _ rs.ext0 (.lst a b)
  | tup a b => exact f1 _ _ _ rs.ext0 (.tup a b)
  | fn a => exact f1 _ _ _ rs.ext0 (.fn a)
  | ty a => exact f1 _ _ _ rs.ext0 (.ty a)
  | scr a => exact f1 _ _ _ rs.ext0 (.scr a)
  | opq a => exact f1 _ _ _ rs.ext0 (.opq a)
  | pln a b c d => exact f1 _ _ _ rs.ext0 (.pln a b c d)
  | wds a => exact f1 _ _ _ rs.ext0 (.wds a)
  | dmp a => exact f1 _ _ _ rs.ext0 (.dmp a)
  | imp a => exact f1 _ _ _ rs.ext0 (.imp a)
/-! ### (a, ..) -/
def dRow (xs : List D) : Out D := match partOf xs with
  | some p => if xs.length ≤ LIM then .ok (.row p) else .bad
  | none => .bad
theorem e_row {es : List Expr} {x1} {pos : Pos} {ms : Env → Out (List D)} (h : PAm X T E es ms) : PEm X T E (.Tuple es x1 pos) (mN dRow ms) := by
  refine weakE (pe_tupF h) fun σ H Q h => ?_
  obtain ⟨Γ, M, H0, rs, fn⟩ := h
  refine ⟨Γ, M, H0, rs, FinA.bindE fn fun d v H1 M1 _ e1 r1 f1 => ?_⟩
  have rs1 := rs.ext e1
  unfold dRow at f1
  cases hp : partOf d with
  | none => rw [hp] at f1; exact f1.elim
  | some p =>
    rw [hp] at f1
    dsimp only at f1
    by_cases hl : d.length ≤ LIM
    · rw [if_pos hl] at f1
      refine ⟨by rw [r1.length]; exact lim_line hl, fun a o ha ho => ?_⟩
      obtain ⟨M', e, r⟩ := newRow (K := X.K) (mg := X.mg) (T := T) (p := p) rs1.ms rs1.nt ha ho
      rw [part_vals r1 hp]
      exact f1 _ _ _ e r
    · rw [if_neg hl] at f1
      exact f1.elim
/-! ### a + b -/
def dRCat : D → D → Out D
  | .row p, .row q => if p.length + q.length ≤ LIM then .ok (.row (p ++ q)) else .bad
  | _, _ => .bad
theorem nx_rcat : noX dRCat := fun a b c h => by
  unfold dRCat at h
  split at h
  · split at h <;> cases h
  · cases h
theorem map_nil_of {p : Part} (h : p.map leafV = []) : p = [] := by
  cases p with
  | nil => rfl
  | cons a b => cases h
theorem od_rcat : OpD K mg T (rCatF K) dRCat := fun x y dx dy M H Q d s nt rx ry h q => by
  cases rx with
  | @row a p hp =>
    cases ry with
    | @row b p2 hp2 =>
      have h : (if p.length + p2.length ≤ LIM then Out.ok (D.row (p ++ p2)) else .bad) = .ok d := h
      by_cases hl : p.length + p2.length ≤ LIM
      · rw [if_pos hl] at h
        cases h
        refine ⟨a, b, p.map leafV, p2.map leafV, rfl, rfl, same_sqT s hp.sq, same_sqT s hp2.sq, by rw [List.length_map, List.length_map]; exact lim_line hl, fun ex => ?_, fun _ ey => ?_, fun _ _ c o hc ho => ?_⟩
        · rw [map_nil_of ex] at q
          exact q _ _ _ (Ext.refl s nt) (.row hp2)
        · rw [map_nil_of ey, List.append_nil] at q
          exact q _ _ _ (Ext.refl s nt) (.row hp)
        · obtain ⟨M', e, r⟩ := newRow (K := K) (mg := mg) (T := T) (p := p ++ p2) s nt hc ho
          rw [← List.map_append]
          exact q _ _ _ e r
      · rw [if_neg hl] at h
        cases h
    | _ => cases h
  | _ => cases ry <;> cases h
theorem e_rcat {a b : Expr} {ma mb : Env → Out D} {pos : Pos} (ha : PEm X T E a ma) (hb : PEm X T E b mb) : PEm X T E (.BinOp a .Add b pos) (m2 dRCat ma mb) := e_op op_catF od_rcat nx_rcat ha hb
/-! ### a[lo:hi] -/
def cutP (p : Part) (lo hi : Option Int) : Part := (p.drop (HT.sIx p.length 0 lo)).take (HT.sIx p.length p.length hi - HT.sIx p.length 0 lo)
def dRSl (d : D) (lo hi : Option Int) : Out D := match d with
  | .row p => .ok (.row (cutP p lo hi))
  | _ => .bad
def mRSl (m : Env → Out D) (lo hi : TOm) : Env → Out D := fun Γ => (m Γ).bind fun d => (lo Γ).bind fun l => (hi Γ).bind fun h => dRSl d l h
theorem cutP_v (p : Part) (lo hi : Option Int) : cutV (p.map leafV) lo hi = (cutP p lo hi).map leafV := by
  unfold cutV cutP
  rw [List.length_map, List.map_take, List.map_drop]
theorem e_rslice {a : Expr} {lo hi : Option Expr} {m : Env → Out D} {ml mh : TOm} {p1 pos : Pos} (ha : PEm X T E a m) (hl : POm X T E lo ml) (hh : POm X T E hi mh) :
    PEm X T E (.Subscript a (.Slice lo hi none p1) pos) (mRSl m ml mh) := weakE (pe_slice sl_tupF ha hl hh) fun σ H Q h => by
  obtain ⟨Γ, M, H0, r, f⟩ := h
  refine ⟨Γ, M, H0, r, Fin.bind f fun d v H1 M1 _ e1 r1 f1 => ?_⟩
  refine ⟨Γ, M1, H0, r.ext e1, FinO.bindE f1 fun l H2 M2 _ e2 f2 => ?_⟩
  refine ⟨Γ, M2, H0, (r.ext e1).ext e2, FinO.bindE f2 fun u H3 M3 _ e3 f3 => ?_⟩
  have rs := ((r.ext e1).ext e2).ext e3
  have r1 := r1.mono (e2.mm.trans e3.mm)
  cases r1 with
  | @row a p hp =>
    have f3 : Fin X.K X.mg T M3 H3 Q E (.ok (.row (cutP p l u))) := f3
    refine ⟨a, p.map leafV, rfl, same_sqT rs.ms hp.sq, fun hw => ?_, fun _ b o hb ho => ?_⟩
    · rw [List.length_map] at hw
      have e : cutP p l u = p := by
        unfold cutP
        rw [hw.1, hw.2]
        simp
      rw [e] at f3
      exact f3 _ _ _ rs.ext0 (.row hp)
    · obtain ⟨M', e, rr⟩ := newRow (K := X.K) (mg := X.mg) (T := T) (p := cutP p l u) rs.ms rs.nt hb ho
      rw [cutP_v]
      exact f3 _ _ _ e rr
  | _ => exact f3.elim
/-! ### tuple(xs) -/
def dRTuple : D → Out D
  | .lst xs => (match partOf xs with
    | some p => .ok (.row p)
    | none => .bad)
  | _ => .bad
theorem nx_rtuple : noX1 dRTuple := fun d c h => by
  cases d with
  | lst xs =>
    have h : (match (partOf xs : Option Part) with
      | some p => Out.ok (D.row p)
      | none => .bad) = .exc c := h
    cases hp : partOf xs with
    | none => rw [hp] at h; cases h
    | some p => rw [hp] at h; cases h
  | _ => cases h
theorem cd_rtuple : CallD K mg T (rTupleF K) (c1 dRTuple) := cd_1 fun x dx M H Q d s nt rx hf q => by
  cases rx with
  | @lst a vs xs ha ra =>
    have hf : (match (partOf xs : Option Part) with
      | some p => Out.ok (D.row p)
      | none => .bad) = .ok d := hf
    cases hp : partOf xs with
    | none => rw [hp] at hf; cases hf
    | some p =>
      rw [hp] at hf
      cases hf
      rw [part_vals ra hp] at ha
      refine ⟨a, _, rfl, SqL.of (s _ _ ha), fun l o hl ho => ?_⟩
      obtain ⟨M', e, r⟩ := newRow (K := K) (mg := mg) (T := T) (p := p) s nt hl ho
      exact q _ _ _ e r
  | _ => cases hf
theorem b_rtuple (hm : X.mg "tuple" = none) : Bt X T "tuple" (c1 dRTuple) := .ty call_tupleF cd_rtuple (nx_c1 nx_rtuple) hm (by decide +kernel) (by decide) (by decide)
end FL
set_option Elab.async false
set_option linter.all false
set_option maxRecDepth 100000
set_option maxHeartbeats 4000000
/-! rows: index(None), * n -/
namespace FL
open PySem PySem.Spec PyProof.Rows L2 LamX
variable {X : Cx} {K : PySem.W.Frag} {mg : Str → Option Value} {T : Tb} {E : XK} {M M0 M1 H H0 H1 Hb : Hp} {Γ : Env} {σ : L2.St}
/-- a method of a tuple without a dict -/
def tBMR (r : V → List V → Hp → VK → Prop) (to : TE) (t : TA) : TE := fun σ H Q => to σ H fun x H1 => (∃ a o xs, x = .ref a ∧ H1 a = some (.frz o (.tup xs)) ∧ o.dict = none) ∧ t σ H1 fun xs H2 => r x xs H2 Q
theorem pe_bmR {o e : Expr} {es : List Expr} {to : TE} {t : TA} {name : Str} {apos cpos : Pos} {id : String} {r : V → List V → Hp → VK → Prop} (slot : Slot "tuple" name id) (hty : typeOf (.builtin id) = pure (.type "method_descriptor")) (hm : MtR X id r) (ho : PE X o to) (ha : PA X (e :: es) t)
    (hbase : attributeBase o name X.env (eval o X.env) = eval o X.env := by rfl)
    (hfew : ((backTo cpos (starEach (e :: es) X.env)).all (fun x => !x.1) && (backToKw cpos (keywordEach [] X.env)).all (fun x => x.1.isSome) && decide ((e :: es).length + ([] : List Keyword).length + (if ([] : List Keyword).isEmpty then 0 else 1) < 30)) = true := by rfl)
    (hline : (apos.endLine == cpos.line) = true := by rfl) (hs : starEach (e :: es) X.env = (false, eval e X.env) :: starEach es X.env := by rfl) (hplain : (backTo cpos (starEach es X.env)).any (·.1) = false := by rfl) :
    PE X (.Call (.Attribute o name apos) (e :: es) [] cpos) (tBMR r to t) := by
  refine ⟨fun pins s σ H Q I h => ?_⟩
  refine wpAny_Call_method_late hbase hfew hline rfl (thn (ho.run pins s σ H _ I h) fun v s1 ⟨x, H1, I1, r1, ⟨a, ob, xs, ex, hx, hd⟩, q1⟩ => ?_)
  subst ex
  obtain rfl : v = Value.ref a := r1
  obtain ⟨g1, g2, its, g3, o2, g4, g5, _⟩ := I1.hok a _ hx
  rw [g1] at g4
  cases g4
  refine ⟨"tuple", id, PySem.F.plainAttrs_tuple, slot, hty, ⟨_, g1, g5⟩, fun b e => by cases e; exact ⟨_, g1, hd⟩, ?_⟩
  have hA := ha.run cpos pins s1 σ H1 _ I1 q1
  rw [hs] at hA ⊢
  refine Calls.callWith_builtin (by show (false || (backTo cpos (starEach es X.env)).any (·.1)) = false; rw [hplain] <;> rfl) (Calls.evalArgs_plain ?_)
  exact thn hA fun us s2 ⟨vs, H2, I2, r2, q2⟩ => hm pins s2 σ H2 (.ref a) vs (.ref a) us Q I2 rfl r2 q2
def rIndexN (K : PySem.W.Frag) : V → List V → Hp → VK → Prop := fun x xs H Q => ∃ (a : Addr) (p : Part) (j : Nat), x = V.ref a ∧ xs = [.non] ∧ SqT K H a (p.map leafV) ∧ p[j]? = some none ∧ (∀ m, m < j → p[m]? ≠ some none) ∧ Q (.int (j : Nat)) H
theorem flat_leaf (p : Part) : (p.map leafV).all flatV = true := by
  rw [List.all_map]
  refine List.all_eq_true.mpr fun x _ => ?_
  cases x <;> rfl
theorem mt_indexN : MtR X "tuple.index" (rIndexN X.K) := by
  intro pins s σ H x xs v us Q I rx rs h
  obtain ⟨a, p, j, rfl, rfl, hq, hy, hno, q⟩ := h
  cases rx
  obtain ⟨u, rfl, ru⟩ := vals1 rs
  obtain rfl : u = Value.none := ru
  obtain ⟨its, r, pl, hz⟩ := I.tuple hq
  obtain ⟨⟨cls, dd, dt, sl⟩, ho, hc, n, hd⟩ := pl
  simp only at hc hd
  subst hc
  subst hd
  have hl : its.toArray.size = p.length := by rw [List.size_toArray, ← r.length, List.length_map]
  have hj : j < its.toArray.size := by rw [hl]; exact (List.getElem?_eq_some_iff.mp hy).1
  have at' : ∀ (m : Nat) (hm : m < its.toArray.size) (y : Option Int), p[m]? = some y → RelV (leafV y) its.toArray[m] := fun m hm y hy => by
    obtain ⟨w, hw, hw'⟩ := r.get (i := m) (x := leafV y) (by rw [List.getElem?_map, hy]; rfl)
    have e := (List.getElem?_eq_some_iff.mp hw).2
    have e2 : its.toArray[m] = w := by rw [← e]; simp
    rw [e2]
    exact hw'
  refine call_meets PySem.F.slot_tuple_index ⟨_, ho, rfl⟩ PySem.F.entry_tuple_index (PySem.F.args_tuple_index_2 _ _) (TI.tuple_indexAt a its.toArray n dd sl .none (eqU .non) j hj ?_ ?_)
    ⟨ho, fun w hw => mem_eqAt (x := .non) rfl rfl r (flat_leaf p) w (by simpa using hw), ⟨.int (j : Nat), H, I.tok _, ⟨_, rfl⟩, q⟩⟩
  · have := at' j hj none hy
    have e : its.toArray[j] = Value.none := this
    rw [e]
    rfl
  · intro m hm hmj
    have hm' : m < p.length := by rw [← hl]; exact hm
    have hpm : p[m]? = some p[m] := List.getElem?_eq_getElem hm'
    have h1 := at' m hm _ hpm
    cases e : p[m] with
    | none =>
      rw [e] at hpm
      exact absurd hpm (hno m hmj)
    | some i =>
      rw [e] at h1
      obtain ⟨t, h1⟩ := h1
      rw [h1]
      rfl
def idxN : Part → Option Nat
  | [] => none
  | none :: _ => some 0
  | some _ :: p => (idxN p).map (· + 1)
theorem idxN_spec : ∀ {p : Part} {j : Nat}, idxN p = some j → p[j]? = some none ∧ ∀ m, m < j → p[m]? ≠ some none
  | [], _, h => by cases h
  | none :: p, j, h => by
    cases h
    exact ⟨rfl, fun m hm => absurd hm (Nat.not_lt_zero _)⟩
  | some i :: p, j, h => by
    unfold idxN at h
    obtain ⟨k, hk, rfl⟩ := Option.map_eq_some_iff.mp h
    obtain ⟨h1, h2⟩ := idxN_spec hk
    refine ⟨by simpa using h1, fun m hm => ?_⟩
    cases m with
    | zero => simp
    | succ m => simpa using h2 m (by omega)
def dIdxN : D → D → Out D
  | .row p, .non => (match idxN p with
    | some j => .ok (.int (j : Nat))
    | none => .bad)
  | _, _ => .bad
def isRow : D → Bool
  | .row _ => true
  | _ => false
def mRM (f : D → D → Out D) (a b : Env → Out D) : Env → Out D := fun Γ => (a Γ).bind fun x => if isRow x = true then (b Γ).bind (f x) else .bad
theorem e_idxN {a e : Expr} {ma mb : Env → Out D} {apos cpos : Pos} (ho : PEm X T E a ma) (he : PEm X T E e mb)
    (hbase : attributeBase a "index" X.env (eval a X.env) = eval a X.env := by rfl)
    (hfew : ((backTo cpos (starEach [e] X.env)).all (fun x => !x.1) && (backToKw cpos (keywordEach [] X.env)).all (fun x => x.1.isSome) && decide ([e].length + ([] : List Keyword).length + (if ([] : List Keyword).isEmpty then 0 else 1) < 30)) = true := by rfl)
    (hline : (apos.endLine == cpos.line) = true := by rfl) (hs : starEach [e] X.env = (false, eval e X.env) :: starEach [] X.env := by rfl) (hplain : (backTo cpos (starEach [] X.env)).any (·.1) = false := by rfl) :
    PEm X T E (.Call (.Attribute a "index" apos) [e] [] cpos) (mRM dIdxN ma mb) :=
  weakE (pe_bmR PySem.F.slot_tuple_index PySem.F.type_tuple_index mt_indexN ho (pa_cons he pa_nil hs) hbase hfew hline hs hplain) fun σ H Q h => by
    obtain ⟨Γ, M, H0, r, f⟩ := h
    refine ⟨Γ, M, H0, r, Fin.bind f fun d v H1 M1 _ e1 r1 f1 => ?_⟩
    have rs := r.ext e1
    cases r1 with
    | @row a p hp =>
      have f1 : Fin X.K X.mg T M1 H1 Q E ((mb Γ).bind (dIdxN (.row p))) := f1
      obtain ⟨o, g1, g2⟩ := id hp
      refine ⟨⟨a, o, _, rfl, rs.ms _ _ g1, g2⟩, Γ, M1, H0, rs, Fin.bind f1 fun y w H2 M2 _ e2 r2 f2 => ?_⟩
      have rs2 := rs.ext e2
      cases r2 with
      | non =>
        have f2 : Fin X.K X.mg T M2 H2 Q E (match idxN p with
          | some j => .ok (.int (j : Nat))
          | none => .bad) := f2
        cases q : idxN p with
        | none => rw [q] at f2; exact f2.elim
        | some j =>
          rw [q] at f2
          obtain ⟨h1, h2⟩ := idxN_spec q
          exact ⟨a, p, j, rfl, rfl, same_sqT rs2.ms (hp.mono e2.mm).sq, h1, h2, f2 _ _ _ rs2.ext0 (.int _)⟩
      | _ => exact f2.elim
    | _ => exact f1.elim
end FL
set_option Elab.async false
set_option linter.all false
set_option maxRecDepth 100000
set_option maxHeartbeats 4000000
/-! enumerate(a tuple) -/
namespace PySem
open Sem (wp)
open AutoSeq1 (wpAny_loadPart')
theorem fl_enumerate_newT (l : Addr) (items : Array Value) (n : Nat) (dct : Option Addr) (sl : Array (Option Value)) :
    Meets (Builtin.«enumerate.__new__» ⟨[.type "enumerate", .ref l], []⟩) (fun _ R s => s.heap.get? l = some { cls := .type "tuple", dict := dct, data := .seq items n, slots := sl } ∧
      R (.ok (.ret (.ref (s.heap.push { cls := .type "tuple_iterator", data := .fields #[.ref l, .int 0 0] }).objs.size)))
        { s with heap := (s.heap.push { cls := .type "tuple_iterator", data := .fields #[.ref l, .int 0 0] }).push { cls := .type "enumerate", data := .fields #[.none, .bool false, .ref s.heap.objs.size, rawInt 0, .none, .none] } }) :=
  .of_wp fun prog w A R s h => by
    obtain ⟨hp, g, d, tk, os⟩ := s; obtain ⟨hl, h⟩ := h
    have hsub := sub_enumerate
    have hL : Heap.IsTuple (Shared.heap ⟨hp, g, d, tk, os⟩) l items := ⟨_, hl, rfl, n, rfl⟩
    wp_walk using wpAny_loadPart' hl
    refine wpAny_stack_any fun st => wpAny_pure ?_
    split
    · rename_i c _ _ _ _ _
      cases (c == Value.type "enumerate")
      · wp_walk using wpAny_loadPart' hl, wpAny_pyIter_tuple hL
        exact ⟨_, rfl, h⟩
      · wp_walk using wpAny_loadPart' hl, wpAny_pyIter_tuple hL
        exact ⟨_, rfl, h⟩
    · wp_walk using wpAny_loadPart' hl, wpAny_pyIter_tuple hL
      exact ⟨_, rfl, h⟩
theorem fl_call_enumerate_tuple {prog : Program} {w : World} {A : Around} {E : Value → Shared → Prop} {s : Shared} {l : Addr} {items : Array Value} {Q : Value → Shared → Prop} (hL : s.heap.IsTuple l items)
    (h : ∀ h', IsEnum h' (s.heap.objs.size + 1) s.heap.objs.size 0 .none → h'.IsTupleIter s.heap.objs.size l 0 → h'.objs.size = s.heap.objs.size + 2 →
      (∀ b o, s.heap.get? b = some o → h'.get? b = some o) → Q (.ref (s.heap.objs.size + 1)) { s with heap := h' }) :
    wpAny (model prog w) A (call (.type "enumerate") [.ref l]) Q E s := by
  obtain ⟨⟨c, dct, dt, sl⟩, hl, hc, n, hd⟩ := hL
  replace hc : c = .type "tuple" := hc
  replace hd : dt = .seq items n := hd
  subst hc hd
  refine callType_new F.called_enumerate (by decide) (F.typeCall_enumerate_1 _) (F.newCall_enumerate_1 _) (fun obj => F.args_object_init_2 obj _) F.entry_enumerate_new
    (fl_enumerate_newT l items n dct sl) ⟨hl, ?_⟩
  have hz : (s.heap.push { cls := .type "tuple_iterator", data := .fields #[.ref l, .int 0 0] }).objs.size = s.heap.objs.size + 1 := Heap.size_push ..
  show _ ∧ _
  rw [hz]
  have he : IsEnum ((s.heap.push { cls := .type "tuple_iterator", data := .fields #[.ref l, .int 0 0] }).push
      { cls := .type "enumerate", data := .fields #[.none, .bool false, .ref s.heap.objs.size, rawInt 0, .none, .none] }) (s.heap.objs.size + 1) s.heap.objs.size 0 .none := by
    have := Heap.get?_push_size (s.heap.push { cls := .type "tuple_iterator", data := .fields #[.ref l, .int 0 0] })
      (o := { cls := .type "enumerate", data := .fields #[.none, .bool false, .ref s.heap.objs.size, rawInt 0, .none, .none] }) rfl
    rw [hz] at this; exact this
  refine ⟨⟨_, he, rfl⟩, h _ he ⟨_, Heap.get?_push_of_some _ (Heap.get?_push_size _ rfl), rfl, rfl⟩ (by rw [Heap.size_push, hz]) fun b o x => Heap.get?_push_of_some _ (Heap.get?_push_of_some _ x)⟩
end PySem
namespace FL
open PySem PySem.Spec PyProof.Rows L2 LamX
/-- the tuple at a, each item in a new pair -/
def IteT (K : PySem.W.Frag) (a : Addr) : It :=
  ⟨fun i H => ∃ (xs : List V) (x : V), SqT K H a xs ∧ xs[i]? = some x, fun i H v H' => ∃ T x, v = .ref T ∧ H T = none ∧ H' = upd H T (.tup [.int (i : Nat), x]) ∧ ∀ xs, SqT K H a xs → xs[i]? = some x, fun i H => ∃ xs : List V, SqT K H a xs ∧ xs.length = i⟩
theorem turn_enumT {P : Program} {w : World} {K : PySem.W.Frag} {elts : List Expr} {kk : Nat} {tpos : Pos} (a e it : Addr) :
    Turn P w K (.Tuple elts kk tpos) (IteT K a) [e, it] e (fun i h => (∃ old, IsEnum h e it ((i : Nat) : Int) old) ∧ h.IsTupleIter it a i ∧ e ≠ it) where
  mem := by simp
  obj := fun i h st b hb => by
    obtain ⟨⟨old, he⟩, ⟨o, ho, hc, hd⟩, _⟩ := st
    have e' : b = e ∨ b = it := by simpa using hb
    rcases e' with z | z
    · rw [z]; exact ⟨_, he, fun v q => nomatch q⟩
    · rw [z]; exact ⟨o, ho, fun v q => by rw [hd] at q; cases q⟩
  keep := fun i h h' st k => let ⟨⟨old, he⟩, hi, hne⟩ := st; ⟨⟨old, k e (by simp) _ he⟩, hi.at fun o q => k it (by simp) o q, hne⟩
  item := by
    intro X hP hw hK hc i pins s σ H E I hf st hg
    subst hP hw hK
    obtain ⟨⟨old, he⟩, hit, hne⟩ := st
    obtain ⟨xs, x, hq, hx⟩ := hg
    obtain ⟨its, rv, p, hz⟩ := I.tuple hq
    obtain ⟨u, hu, ru⟩ := rv.get hx
    have hel : e < s.heap.objs.size := Heap.lt_size he
    have hil : it < s.heap.objs.size := by obtain ⟨_, q, _⟩ := hit; exact Heap.lt_size q
    have hai : a ≠ it := by
      intro z
      subst z
      obtain ⟨o1, g1, g2, _⟩ := hit
      obtain ⟨o2, g3, g4, _⟩ := p
      rw [g1] at g3
      cases g3
      rw [g2] at g4
      injection g4 with g4
      exact absurd g4 (by decide)
    have hae : e ∉ [it, a] := by
      intro z
      simp only [List.mem_cons, List.not_mem_nil, or_false] at z
      rcases z with z | z
      · exact hne z
      · subst z
        obtain ⟨o2, g3, g4, _⟩ := p
        have g1 : s.heap.get? e = some _ := he
        rw [g1] at g3
        cases g3
        injection g4 with g4
        exact absurd g4 (by decide)
    have hlt : i < its.toArray.size := by
      have := (List.getElem?_eq_some_iff.mp hu).1
      simpa using this
    refine wpAny_pyNext_enum_itemD (Draws.tuple (A := X.A.in1) (I.ok.hd hc) it a hai its.toArray) he ⟨hit, p⟩ hlt hne hae fun x' h' tk hPx ho hst' hT hsz hk => ?_
    have ex : x' = u := by
      have h2 : its.toArray[i]? = some u := by simpa using hu
      rw [h2] at hPx
      exact (Option.some.inj hPx).symm
    subst ex
    refine ⟨_, rfl, wpAny_letOwnedTupleGo_enum (s := { s with heap := h', toks := tk + 1 }) ho fun h'' he' sb => ?_⟩
    have hT2 : h''.get? s.heap.objs.size = some { cls := .type "tuple", data := .seq #[.int i tk, x'] } := (sb.2 _ (Nat.ne_of_gt hel)).trans hT
    have new : ObjOk X.prog X.w (upd H s.heap.objs.size (.tup [.int (i : Nat), x])) h'' s.heap.objs.size (.tup [.int (i : Nat), x]) :=
      ⟨by show 2 ≤ sizeLine; decide, [.int i tk, x'], .cons ⟨_, rfl⟩ (.cons ru .nil), ⟨_, hT2, rfl, _, rfl⟩⟩
    have I1 : Inv X pins σ (upd H s.heap.objs.size (.tup [.int (i : Nat), x])) { s with heap := h'', toks := tk + 1 } :=
      I.turnedNew (ch := [e, it]) (fun b ob hb q => (sb.2 b (fun z => hb (by simp [z]))).trans (hk b ob (fun z => hb (by simp [z])) (fun z => hb (by simp [z])) q)) hf (Nat.le_refl _) new
    refine ⟨.ref s.heap.objs.size, _, I1, rfl, ⟨_, x, rfl, I.hok.fresh (Nat.le_refl _), rfl, fun ys hy => by rw [I.tuple_inj hy hq]; exact hx⟩, ⟨⟨x', ?_⟩, hst'.1.at fun o q => (sb.2 it (Ne.symm hne)).trans q, hne⟩, fun b hb => ?_⟩
    · have e1 : ((i + 1 : Nat) : Int) = (i : Int) + 1 := by omega
      rw [e1]; exact he'
    · have hb' : b < s.heap.objs.size := by
        have e' : b = e ∨ b = it := by simpa using hb
        rcases e' with z | z
        · rw [z]; exact hel
        · rw [z]; exact hil
      rw [upd_ne (Nat.ne_of_lt hb')]
      exact (hf b hb).1
  done := by
    intro X hP hw hK hc i pins s σ H E I hf st hg
    subst hP hw hK
    obtain ⟨⟨old, he⟩, hit, hne⟩ := st
    obtain ⟨xs, hq, hx⟩ := hg
    obtain ⟨its, rv, p, hz⟩ := I.tuple hq
    obtain ⟨f0, f1, f2, f3, f4, f5⟩ := hf it (by simp)
    have hl := rv.length
    have hai : a ≠ it := by
      intro z
      subst z
      obtain ⟨o1, g1, g2, _⟩ := hit
      obtain ⟨o2, g3, g4, _⟩ := p
      rw [g1] at g3
      cases g3
      rw [g2] at g4
      injection g4 with g4
      exact absurd g4 (by decide)
    have hs : its.toArray.size = i := by rw [List.size_toArray]; omega
    exact wpAny_pyNext_enum_endD (Draws.tuple (A := X.A.in1) (I.ok.hd hc) it a hai its.toArray) he (by rw [hs]; exact ⟨hit, p⟩) fun h' eb => ⟨rfl, I.turned (t' := s.toks) (fun b o hb q => eb b o hb q) f0 f1 f3 f4 f5⟩
  self := fun A i s Q E st h => let ⟨⟨_, he⟩, _⟩ := st; wpAny_pyIter_enum he h
variable {X : Cx} {K : PySem.W.Frag} {mg : Str → Option Value} {T : Tb} {E : XK} {M M0 M1 H H0 H1 Hb : Hp} {Γ : Env} {σ : L2.St}
def iEnumT (K : PySem.W.Frag) (ta : TA) : TI := fun σ H R => ta σ H fun vs H1 => ∃ a xs, vs = [.ref a] ∧ SqT K H1 a xs ∧ R (IteT K a) H1
theorem pi_enumT {e : Expr} {ta : TA} {p pos tpos : Pos} {elts : List Expr} {kk : Nat} (hg : Gl X "enumerate") (hm : X.mg "enumerate" = none) (ha : PA X [e] ta) (hs : starEach [e] X.env = [(false, eval e X.env)] := by rfl) :
    PI X (.Tuple elts kk tpos) (.Call (.Name "enumerate" p) [e] [] pos) (iEnumT X.K ta) := by
  refine ⟨fun pins s σ H R I h => ?_⟩
  refine Call_ (ld_blt I hg hm boot_enumerate (PyProof.Rows.callWith_type1 (thn (ha.run pos pins s σ H _ I h) fun us s1 ⟨vs, H1, I1, r1, q1⟩ => ?_) hs rfl))
  obtain ⟨a, xs, ex, hq, q⟩ := q1
  subst ex
  cases r1 with
  | cons r rr =>
    cases rr
    cases r
    obtain ⟨its, rv, p', hz⟩ := I1.tuple hq
    refine fl_call_enumerate_tuple p' fun h' he hit hsz hk => wpAny_pyIter_enum he ?_
    have I2 : Inv X pins σ H1 { s1 with heap := h' } := I1.kept (t' := s1.toks) hk
    refine ⟨s1.heap.objs.size + 1, [s1.heap.objs.size + 1, s1.heap.objs.size], _, _, H1, rfl, I2, turn_enumT a (s1.heap.objs.size + 1) s1.heap.objs.size, ⟨⟨.none, he⟩, hit, Nat.succ_ne_self _⟩, fun b hb => ?_, q⟩
    have e' : b = s1.heap.objs.size + 1 ∨ b = s1.heap.objs.size := by simpa using hb
    have hle : s1.heap.objs.size ≤ b := by
      rcases e' with z | z
      · rw [z]; exact Nat.le_add_right _ _
      · rw [z]; exact Nat.le_refl _
    exact I1.fpOk hle (I1.hok.fresh hle)
theorem wk_enumT {a : Addr} {vs : List V} {ds : List D} (h : SqT K M a vs) (r : RpL K mg M vs ds) : Wk K mg T M (IteT K a) (ds.mapIdx fun i d => .tup [.int (i : Nat), d]) where
  goes := fun i H hi s => by
    rw [List.length_mapIdx] at hi
    exact ⟨vs, vs[i]'(by rw [r.length]; exact hi), same_sqT s h, by simp [r.length, hi]⟩
  stops := fun H s => by
    rw [List.length_mapIdx]
    exact ⟨vs, same_sqT s h, r.length⟩
  yields := fun i M2 H x H' hi s1 s2 nt y => by
    obtain ⟨Tn, z, e1, e2, e3, q⟩ := y
    subst e1 e3
    have q := q vs (same_sqT s2 (same_sqT s1 h))
    obtain ⟨d, h1, h2⟩ := r.get' q
    obtain ⟨M3, k1, k2⟩ := newPair (T := T) e2 s2 nt (.int (i : Nat)) (h2.mono s1)
    exact ⟨_, M3, by rw [List.getElem?_mapIdx, h1]; rfl, k1, k2⟩
def enumT : List D → Out (List D)
  | [.tup ds] => .ok (ds.mapIdx fun i d => .tup [.int (i : Nat), d])
  | _ => .bad
theorem i_enumT {a : Expr} {ms : Env → Out (List D)} {p pos tpos : Pos} {elts : List Expr} {kk : Nat} (hg : Gl X "enumerate") (hm : X.mg "enumerate" = none) (ha : PAm X T E [a] ms) (hs : starEach [a] X.env = [(false, eval a X.env)] := by rfl) : PIm X T E (.Tuple elts kk tpos) (.Call (.Name "enumerate" p) [a] [] pos) (mI enumT ms) :=
  weakI (pi_enumT hg hm ha hs) fun σ H R h => by
    obtain ⟨Γ, M, H0, r, f⟩ := h
    refine ⟨Γ, M, H0, r, FinI.bindA f fun d v H1 M1 _ e1 r1 f1 => ?_⟩
    have rs := r.ext e1
    cases r1 with
    | nil => exact f1.elim
    | cons h1 t1 =>
      cases h1 with
      | tup hb rb =>
        cases t1 with
        | nil => exact ⟨_, _, rfl, same_sqT rs.ms hb, f1 _ _ _ rs.ext0 (wk_enumT hb rb)⟩
        | cons _ _ => exact f1.elim
      | _ => exact f1.elim
end FL
set_option Elab.async false
set_option linter.all false
set_option maxRecDepth 100000
set_option maxHeartbeats 4000000
/-! rows: (None,) * n -/
namespace FL
open PySem PySem.Spec PyProof.Rows L2 LamX
variable {X : Cx} {K : PySem.W.Frag} {mg : Str → Option Value} {T : Tb} {E : XK} {M M0 M1 H H0 H1 Hb : Hp} {Γ : Env} {σ : L2.St}
def rRepF (K : PySem.W.Frag) : R2 := fun x y H Q => ∃ l k xs, x = .ref l ∧ y = .int k ∧ SqT K H l xs ∧ xs ≠ [] ∧ 2 ≤ k ∧ k ≤ 1000 ∧ xs.length ≤ 1000 ∧ ∀ p o, H p = none → o.dict = none → Q (.ref p) (upd H p (.frz o (.tup (List.replicate k.toNat xs).flatten)))
theorem op_repF : OpR X (binaryOp .Mult) (rRepF X.K) := by
  intro pins s σ H x y v u Q I rx ry h
  obtain ⟨l, k, xs, rfl, rfl, hT, hne, h1, h2, hz, q⟩ := h
  cases rx
  obtain ⟨t, rfl⟩ := ry
  obtain ⟨its, r, ⟨⟨cls, dd, data, sl⟩, ho, hc, n, hd⟩, hs⟩ := I.tuple hT
  simp only at hc hd
  subst hc hd
  have hle : its.length = xs.length := r.length.symm
  have hi : its.toArray.isEmpty = false := by
    cases its with
    | nil => exact absurd (List.eq_nil_of_length_eq_zero hle.symm) hne
    | cons a b => rfl
  have hm : ((its.toArray.size : Nat) : Int) * k ≤ 1000000 := by
    rw [List.size_toArray, hle]
    have a1 : ((xs.length : Nat) : Int) * k ≤ 1000 * k := Int.mul_le_mul_of_nonneg_right (by omega) (by omega)
    omega
  have fl : ∀ {α : Type} (zs : List α), zs.length = xs.length → (List.replicate k.toNat zs).flatten.length ≤ sizeLine := fun zs e => by
    rw [PyProof.Rows.lm_len_rep_flat, e, sizeLine_eq]
    have a1 : k.toNat * xs.length ≤ 1000 * 1000 := Nat.mul_le_mul (by omega) hz
    omega
  refine wpAny_binaryOp_repeat_ref (T := "tuple") (U := "int") (by decide) ⟨_, ho, rfl⟩ (fun s' => typeIs_int s' k t) noFill_tuple_mul F.fills_int_mul F.slot_int_rmul repeat_tuple F.slot_int_index.lookup
    (call_meets F.slot_int_rmul (typeIs_int s k t) F.entry_int_rmul (F.args_int_rmul_2 _ _) (int_rmul_tuple k t l its.toArray n dd sl)
      ⟨ho, rfl, ⟨_, ho, rfl⟩, call_meets F.slot_tuple_mul ⟨_, ho, rfl⟩ F.entry_tuple_mul (F.args_tuple_mul_2 _ _) (tuple_mulW l its.toArray n dd sl k t
        (by rw [decide_eq_false (by omega), decide_eq_false (by omega)] <;> rfl)
        (by rw [hi, Bool.false_or]; exact beq_eq_false_iff_ne.mpr (by omega))
        (by rw [hi, Bool.or_false]; exact decide_eq_false (by omega)) (by omega)
        (by unfold Builtin.Tuple.tupleTooMany; rw [sizeLine_eq]; exact decide_eq_false (by omega)) (by rw [size_rep, List.size_toArray]; exact fl its hle)) ⟨ho, ?_⟩⟩)
  rw [size_rep]
  exact ⟨.ref s.heap.objs.size, _, I.laid (t' := s.toks) (o := .frz _ (.tup (List.replicate k.toNat xs).flatten)) (fun b ob q => Heap.get?_push_of_some _ q) (Nat.le_refl _) ⟨Heap.get?_push_size _ rfl, fl xs rfl, _, r.rep k.toNat, IsTup.new _ _⟩, rfl, q _ _ (I.hok.fresh (Nat.le_refl _)) rfl⟩
def rRMul (K : PySem.W.Frag) : R2 := fun x y H Q => rTup1 K x y H Q ∨ rRepF K x y H Q
def dRMul : D → D → Out D
  | .row p, .int k => if k = 1 then .ok (.row p) else if p ≠ [] ∧ 2 ≤ k ∧ k ≤ 1000 ∧ p.length ≤ 1000 then .ok (.row (List.replicate k.toNat p).flatten) else .bad
  | _, _ => .bad
theorem nx_rmul : noX dRMul := fun a b c h => by
  unfold dRMul at h
  split at h
  · split at h
    · cases h
    · split at h <;> cases h
  · cases h
theorem rep_leaf (p : Part) : ∀ k : Nat, (List.replicate k (p.map leafV)).flatten = ((List.replicate k p).flatten).map leafV
  | 0 => rfl
  | k + 1 => by
    rw [List.replicate_succ, List.replicate_succ, List.flatten_cons, List.flatten_cons, List.map_append, rep_leaf p k]
theorem od_rmul : OpD K mg T (rRMul K) dRMul := fun x y dx dy M H Q d s nt rx ry h q => by
  cases rx with
  | @row a p hp =>
    cases ry with
    | int k =>
      have h : (if k = 1 then Out.ok (D.row p) else if p ≠ [] ∧ 2 ≤ k ∧ k ≤ 1000 ∧ p.length ≤ 1000 then .ok (.row (List.replicate k.toNat p).flatten) else .bad) = .ok d := h
      by_cases hk : k = 1
      · rw [if_pos hk] at h
        cases h
        subst hk
        exact .inl ⟨a, _, rfl, rfl, same_sqT s hp.sq, q _ _ _ (Ext.refl s nt) (.row hp)⟩
      · rw [if_neg hk] at h
        by_cases hl : p ≠ [] ∧ 2 ≤ k ∧ k ≤ 1000 ∧ p.length ≤ 1000
        · rw [if_pos hl] at h
          cases h
          refine .inr ⟨a, k, p.map leafV, rfl, rfl, same_sqT s hp.sq, fun z => hl.1 (map_nil_of z), hl.2.1, hl.2.2.1, by rw [List.length_map]; exact hl.2.2.2, fun b o hb ho => ?_⟩
          obtain ⟨M', e, r⟩ := newRow (K := K) (mg := mg) (T := T) (p := (List.replicate k.toNat p).flatten) s nt hb ho
          rw [rep_leaf]
          exact q _ _ _ e r
        · rw [if_neg hl] at h
          cases h
    | _ => cases h
  | _ => cases ry <;> cases h
theorem e_rmul {a b : Expr} {ma mb : Env → Out D} {pos : Pos} (ha : PEm X T E a ma) (hb : PEm X T E b mb) : PEm X T E (.BinOp a .Mult b pos) (m2 dRMul ma mb) := e_op (op_tup1.or op_repF) od_rmul nx_rmul ha hb
end FL
set_option Elab.async false
set_option linter.all false
set_option maxRecDepth 100000
set_option maxHeartbeats 4000000
/-! min of a list of data -/
namespace FL
open PySem PySem.Spec PyProof.Rows L2 LamX
variable {X : Cx} {K : PySem.W.Frag} {mg : Str → Option Value} {T : Tb} {E : XK} {M M0 M1 H H0 H1 Hb : Hp} {Γ : Env} {σ : L2.St}
open PySem.W in
theorem min_list_at {prog : Program} {w : World} {A : Around} {E : Value → Shared → Prop} {s : Shared} {l : Addr} {vs : Array Value} {x : PyData} {xs : List PyData} {as : List Addr} {Q : Value → Shared → Prop} (hh : A.handled = none) (hl : s.heap.IsList l vs) (hr : ReadsAll s.heap vs.toList (x :: xs) as) (ha : AlikeAll (x :: xs)) (hu : A.units + 1 + PyData.depthAll (x :: xs) < cLine)
    (h : ∀ (i : Nat) v h' tk, vs[i]? = some v → (x :: xs).getD i .none = minD x xs → (∀ b o, s.heap.get? b = some o → h'.get? b = some o) → Q v { s with heap := h', toks := tk }) :
    wpAny (model prog w) A (call (.builtin "min") [.ref l]) Q E s := by
  have hn : vs.size = xs.length + 1 := readsAll_len hr
  refine call_min_walkH (iter_listW (A := A.in1) hh hl fun s₂ e W st hfp hw hk => ?_)
  refine ⟨_, _, _, _, _, _, _, s.heap, _, rfl, W, st, hfp, by omega, hw, hk, cmpIn_lt (A := A.in1) hr ha (by show A.units + 1 + _ < _; exact hu), fun v s' hP m => ?_⟩
  obtain ⟨h', tk, rfl, hk'⟩ := moved_old e rfl m
  have e1 : vs.size - 1 = xs.length := by omega
  have e2 := (argBest_fold dataLt PyData.none x xs xs.length (Nat.le_refl _)).2
  rw [List.take_length] at e2
  rw [e1] at hP
  exact h _ v h' tk hP e2 hk'
def rMinD (K : PySem.W.Frag) : List V → Hp → VK → Prop := fun vs H Q => ∃ a ys x ds, vs = [V.ref a] ∧ SqL K H a ys ∧ Dp K H (V.ref a) (.list (x :: ds)) ∧ PySem.W.AlikeAll (x :: ds) ∧ PyData.depthAll (x :: ds) ≤ 8 ∧
  ∀ (i : Nat) v, ys[i]? = some v → (x :: ds).getD i .none = PySem.W.minD x ds → Q v H
theorem cr_minD (hc : X.calm = true) (hu : X.A.units + 65 < cLine) : CallR X (.builtin "min") (rMinD X.K) := by
  intro pins s σ H vs us Q I r h
  obtain ⟨a, ys, x, ds, rfl, hs, hd, ha, hdp, q⟩ := h
  obtain ⟨u, rfl, ru⟩ := vals1 r
  obtain rfl : u = Value.ref a := ru
  cases hd with
  | lst hs2 hda =>
    have e := I.list_inj hs hs2
    subst e
    obtain ⟨its, rv, pl, hz⟩ := I.list hs
    obtain ⟨as, h4⟩ := Dp.readsAll I (x :: ds) _ its hda rv
    refine min_list_at (I.ok.hd hc) pl.isList (show ReadsAll s.heap its.toArray.toList (x :: ds) as from h4) ha (by omega) fun i v h' tk hv hm hk => ?_
    have hv2 : its[i]? = some v := by simpa using hv
    have hi : i < ys.length := by
      have := (List.getElem?_eq_some_iff.mp hv2).1
      have := rv.length
      omega
    obtain ⟨u2, g1, g2⟩ := rv.get (i := i) (x := ys[i]) (List.getElem?_eq_getElem hi)
    rw [hv2] at g1
    cases g1
    exact ⟨ys[i], H, I.kept (t' := tk) hk, g2, q i _ (List.getElem?_eq_getElem hi) hm⟩
end FL
set_option Elab.async false
set_option linter.all false
set_option maxRecDepth 100000
set_option maxHeartbeats 4000000
/-! min of a list of pairs (whole number, tuple of whole numbers) -/
namespace FL
open PySem PySem.Spec PyProof.Rows L2 LamX
variable {X : Cx} {K : PySem.W.Frag} {mg : Str → Option Value} {T : Tb} {E : XK} {M M0 M1 H H0 H1 Hb : Hp} {Γ : Env} {σ : L2.St}
def prPy (x : Int × List Int) : PyData := .tuple [.int x.1, .tuple (x.2.map .int)]
def prD (x : Int × List Int) : D := .tup [.int x.1, .tup (x.2.map D.int)]
def minP (x : Int × List Int) (xs : List (Int × List Int)) : Int × List Int := xs.foldl (fun a y => if PySem.W.dataLt (prPy y) (prPy a) then y else a) x
theorem pyL_ints : ∀ w : List Int, D.pyL (w.map D.int) = w.map PyData.int
  | [] => rfl
  | i :: w => by
    rw [List.map_cons, D.pyL, pyL_ints w]
    rfl
theorem prD_py (x : Int × List Int) : (prD x).py = prPy x := by
  unfold prD prPy
  simp only [D.py, D.pyL, pyL_ints]
theorem pyL_prs : ∀ xs : List (Int × List Int), D.pyL (xs.map prD) = xs.map prPy
  | [] => rfl
  | x :: xs => by
    rw [List.map_cons, D.pyL, pyL_prs xs, prD_py]
    rfl
theorem prPy_inj {x y : Int × List Int} (h : prPy x = prPy y) : x = y := by
  unfold prPy at h
  injection h with h
  simp only [List.cons.injEq, PyData.int.injEq, PyData.tuple.injEq, and_true] at h
  obtain ⟨h1, h2⟩ := h
  have aux : ∀ {a b : List Int}, a.map PyData.int = b.map PyData.int → a = b := by
    intro a
    induction a with
    | nil => intro b hb; cases b with
      | nil => rfl
      | cons _ _ => cases hb
    | cons i a ih => intro b hb; cases b with
      | nil => cases hb
      | cons j b =>
        simp only [List.map_cons, List.cons.injEq, PyData.int.injEq] at hb
        rw [hb.1, ih hb.2]
  exact Prod.ext h1 (aux h2)
theorem minP_py (x : Int × List Int) : ∀ xs : List (Int × List Int), PySem.W.minD (prPy x) (xs.map prPy) = prPy (minP x xs) := fun xs => by
  unfold PySem.W.minD minP
  induction xs generalizing x with
  | nil => rfl
  | cons y xs ih =>
    rw [List.map_cons, List.foldl_cons, List.foldl_cons]
    by_cases h : PySem.W.dataLt (prPy y) (prPy x) = true
    · rw [if_pos h, if_pos h]
      exact ih y
    · rw [if_neg h, if_neg h]
      exact ih x
theorem alike_ints : ∀ a b : List Int, PySem.W.alikeAll (a.map PyData.int) (b.map PyData.int) = true
  | [], _ => by simp [PySem.W.alikeAll]
  | _ :: _, [] => by simp [PySem.W.alikeAll]
  | i :: a, j :: b => by
    simp only [List.map_cons, PySem.W.alikeAll, PySem.W.alike, Bool.true_and]
    exact alike_ints a b
theorem alike_prs (xs : List (Int × List Int)) : PySem.W.AlikeAll (xs.map prPy) := by
  refine ⟨fun a ha b hb => ?_, fun a ha z => ?_⟩
  · obtain ⟨x, _, rfl⟩ := List.mem_map.mp ha
    obtain ⟨y, _, rfl⟩ := List.mem_map.mp hb
    unfold prPy
    simp only [PySem.W.alike, PySem.W.alikeAll, Bool.true_and, Bool.and_true]
    exact alike_ints _ _
  · obtain ⟨x, _, rfl⟩ := List.mem_map.mp ha
    cases z
theorem gd_ints2 (n : Nat) (w : List Int) : (w.map D.int).all (gd n) = true := by
  rw [List.all_map]
  refine List.all_eq_true.mpr fun i _ => ?_
  simp [gd]
theorem gd_prs (xs : List (Int × List Int)) : gd 8 (.lst (xs.map prD)) = true := by
  show (xs.map prD).all (gd 7) = true
  rw [List.all_map]
  refine List.all_eq_true.mpr fun x _ => ?_
  show ([D.int x.1, .tup (x.2.map D.int)]).all (gd 6) = true
  rw [List.all_cons, List.all_cons, List.all_nil, Bool.and_true]
  show (true && (x.2.map D.int).all (gd 5)) = true
  rw [gd_ints2]
  rfl
def toPrs : List D → Option (List (Int × List Int))
  | [] => some []
  | .tup [.int a, .tup xs] :: r => match toInts xs, toPrs r with
    | some w, some ps => some ((a, w) :: ps)
    | _, _ => none
  | _ => none
theorem toPrs_map : ∀ xs : List (Int × List Int), toPrs (xs.map prD) = some xs
  | [] => rfl
  | x :: xs => by
    rw [List.map_cons]
    unfold prD toPrs
    rw [toInts_map]
    have := toPrs_map xs
    unfold prD at this
    rw [this]
theorem toPrs_eq : ∀ {ds : List D} {ps : List (Int × List Int)}, toPrs ds = some ps → ds = ps.map prD
  | [], _, h => by cases h; rfl
  | d :: ds, ps, h => by
    unfold toPrs at h
    split at h
    · rename_i h0
      cases h0
    · rename_i a xs r h0
      cases h0
      split at h
      · rename_i w ps' h1 h2
        cases h
        rw [toInts_eq h1, toPrs_eq h2]
        rfl
      · cases h
    · cases h
noncomputable def dMinP : D → Out D
  | .lst ds => (match toPrs ds with
    | some (x :: xs) => .ok (prD (minP x xs))
    | _ => .bad)
  | _ => .bad
theorem nx_minP : noX1 dMinP := fun d c h => by
  cases d with
  | lst ds =>
    unfold dMinP at h
    dsimp only at h
    split at h <;> cases h
  | _ => cases h
theorem depth_prs : ∀ xs : List (Int × List Int), PyData.depthAll (xs.map prPy) ≤ 8
  | [] => by decide
  | x :: xs => by
    have ih := depth_prs xs
    have aux : ∀ w : List Int, PyData.depthAll (w.map PyData.int) ≤ 1 := fun w => by
      induction w with
      | nil => decide
      | cons i w iw =>
        simp only [List.map_cons, PyData.depthAll, PyData.depth]
        omega
    have a1 := aux x.2
    have a2 : (prPy x).depth ≤ 8 := by
      unfold prPy
      simp only [PyData.depth, PyData.depthAll]
      omega
    rw [List.map_cons]
    unfold PyData.depthAll
    omega
theorem cd_minP : CallD K mg T (rMinD K) (c1 dMinP) := cd_1 fun x dx M H Q d s nt rx hf q => by
  cases rx with
  | @lst a vs ds ha ra =>
    have hf : (match (toPrs ds : Option (List (Int × List Int))) with
      | some (x :: xs) => Out.ok (prD (minP x xs))
      | _ => .bad) = .ok d := hf
    cases hp : toPrs ds with
    | none => rw [hp] at hf; cases hf
    | some ps =>
      rw [hp] at hf
      cases ps with
      | nil => cases hf
      | cons p ps =>
        cases hf
        have e := toPrs_eq hp
        subst e
        have dl := Rp.dp (n := 8) (mg := mg) (K := K) s (Rp.lst ha ra) (gd_prs (p :: ps))
        unfold D.py at dl
        rw [pyL_prs, List.map_cons] at dl
        refine ⟨a, vs, prPy p, ps.map prPy, rfl, SqL.of (s _ _ ha), dl, alike_prs (p :: ps), depth_prs (p :: ps), fun i v hv hm => ?_⟩
        obtain ⟨d2, h1, h2⟩ := ra.get' hv
        rw [List.getElem?_map] at h1
        obtain ⟨y, hy, rfl⟩ := Option.map_eq_some_iff.mp h1
        rw [minP_py, ← List.map_cons, List.getD_eq_getElem?_getD, List.getElem?_map, hy] at hm
        have e2 : y = minP p ps := prPy_inj hm
        rw [← e2] at q
        exact q _ _ _ (Ext.refl s nt) h2
  | _ => cases hf
theorem b_minP {k : Nat} (hr : Room k X.A) (hc : X.calm = true) (hm : X.mg "min" = none) : Bt X T "min" (c1 dMinP) := .fn (cr_minD hc (by have := hr.un; omega)) cd_minP (nx_c1 nx_minP) hm (by decide +kernel) (by decide) (by decide)
end FL
set_option Elab.async false
set_option linter.all false
set_option maxRecDepth 100000
set_option maxHeartbeats 4000000
/-! the order of pairs (whole number, tuple of whole numbers) -/
namespace FL
open PySem PySem.Spec PySem.SeqAt PyProof.Rows L2 LamX PySem.W
theorem eqvPI (x y : Int) : PyData.eqv (.int x) (.int y) = decide (x = y) := by
  unfold PyData.eqv
  first | rfl | exact beq_eq_decide _ _ | simp
theorem lt_ints : ∀ w v : List Int, PyProof.Rows.lexLt itemOrd (keyToksAll (w.map PyData.int)) (keyToksAll (v.map PyData.int)) = HT.lexLt w v
  | [], [] => by decide +kernel
  | [], y :: v => by
    simp only [List.map_nil, List.map_cons, keyToksAll]
    rw [lex_atom (by simp), lex_one]
    show _ = true
    decide +kernel
  | x :: w, [] => by
    simp only [List.map_nil, List.map_cons, keyToksAll]
    rw [lex_atom (by simp), lex_one]
    show _ = false
    decide +kernel
  | x :: w, y :: v => by
    rw [List.map_cons, List.map_cons, HT.lexLt_cons]
    by_cases h : x = y
    · rw [if_pos h, dataLt_all_yes (x := .int x) (y := .int y) (by simp [alike]) (by rw [eqvPI, decide_eq_true h]), lt_ints w v]
    · rw [if_neg h, dataLt_all_no (x := .int x) (y := .int y) (by simp [alike]) (by rw [eqvPI, decide_eq_false h]), dataLt_int]
theorem lexLt_self : ∀ w : List Int, HT.lexLt w w = false
  | [] => rfl
  | x :: w => by rw [HT.lexLt_cons, if_pos rfl, lexLt_self w]
theorem eqvAllPI : ∀ w v : List Int, PyData.eqvAll (w.map PyData.int) (v.map PyData.int) = decide (w = v)
  | [], [] => by simp [PyData.eqvAll]
  | [], _ :: _ => by simp [PyData.eqvAll]
  | _ :: _, [] => by simp [PyData.eqvAll]
  | x :: w, y :: v => by
    rw [List.map_cons, List.map_cons, eqv_all_cons, eqvPI, eqvAllPI w v, Bool.eq_iff_iff]
    simp
theorem lt_prs (x y : Int × List Int) : dataLt (prPy x) (prPy y) = if x.1 = y.1 then HT.lexLt x.2 y.2 else decide (x.1 < y.1) := by
  unfold prPy
  rw [dataLt_tuple]
  by_cases h : x.1 = y.1
  · rw [if_pos h, dataLt_all_yes (x := .int x.1) (y := .int y.1) (by simp [alike]) (by rw [eqvPI, decide_eq_true h])]
    by_cases e : x.2 = y.2
    · rw [dataLt_all_yes (x := .tuple (x.2.map .int)) (y := .tuple (y.2.map .int)) (by simp only [alike]; exact alike_ints _ _) (by unfold PyData.eqv; rw [eqvAllPI, decide_eq_true e]), e, lexLt_self]
      decide +kernel
    · rw [dataLt_all_no (x := .tuple (x.2.map .int)) (y := .tuple (y.2.map .int)) (by simp only [alike]; exact alike_ints _ _) (by unfold PyData.eqv; rw [eqvAllPI, decide_eq_false e]), dataLt_tuple, lt_ints]
  · rw [if_neg h, dataLt_all_no (x := .int x.1) (y := .int y.1) (by simp [alike]) (by rw [eqvPI, decide_eq_false h]), dataLt_int]
end FL
set_option Elab.async false
set_option linter.all false
set_option maxRecDepth 100000
set_option maxHeartbeats 4000000
/-! objects: attributes read, methods that only read -/
namespace FL
open PySem PySem.Spec PyProof.Rows L2 LamX
variable {X : Cx} {K : PySem.W.Frag} {mg : Str → Option Value} {T : Tb} {E : XK} {M M0 M1 M' H H0 H1 H' : Hp} {Γ : Env} {σ : L2.St}
/-- a class of the program, and names that it has not -/
structure ObC (K : PySem.W.Frag) (mg : Str → Option Value) (C : Str) (cl : Addr) (ns : List Str) : Prop where
  gl : mg C = some (.ref cl)
  cls : Cls K cl
  na : ∀ f ∈ ns, NoAttr K cl f
theorem FsOk.look {f : Str} : ∀ {vs : List (Str × V)} {fs : Ob}, FsOk K mg M H vs fs → (∀ u, fs.lookup f = some u → ∃ v, vs.lookup f = some v ∧ FlOk K mg M H v u) ∧ (fs.lookup f = none → vs.lookup f = none)
  | _, _, .nil => ⟨fun u h => (by cases h), fun _ => rfl⟩
  | _, _, .cons (x := x) (v := v) (f := g) h r => by
    rw [List.lookup_cons, List.lookup_cons]
    cases f == x with
    | true => exact ⟨fun u e => by cases e; exact ⟨v, rfl, h⟩, fun e => by cases e⟩
    | false => exact r.look
theorem FsOk.len : ∀ {vs : List (Str × V)} {fs : Ob}, FsOk K mg M H vs fs → vs.length = fs.length
  | _, _, .nil => rfl
  | _, _, .cons _ r => by rw [List.length_cons, List.length_cons, r.len]
/-- the object in a slot, to be read -/
def obAt (Γ : Env) (i : Nat) : Option (Str × Ob) := match Γ[i]? with
  | some (some (.obj C _ fs)) => some (C, fs)
  | some (some (.rob C fs)) => some (C, fs)
  | _ => none
theorem obAt_some {i : Nat} {C : Str} {fs : Ob} (h : obAt Γ i = some (C, fs)) : (∃ q, Γ[i]? = some (some (.obj C q fs))) ∨ Γ[i]? = some (some (.rob C fs)) := by
  unfold obAt at h
  cases q : Γ[i]? with
  | none => rw [q] at h; cases h
  | some o =>
    rw [q] at h
    cases o with
    | none => cases h
    | some s =>
      cases s with
      | obj C' q' fs' => cases h; exact .inl ⟨_, rfl⟩
      | rob C' fs' => cases h; exact .inr rfl
      | _ => cases h
theorem Rs.ob (r : Rs K mg T H0 M H Γ σ) {i : Nat} {C : Str} {fs : Ob} (h : obAt Γ i = some (C, fs)) : ∃ p, σ[i]? = some (some (.ref p)) ∧ ObAt K mg M H p C fs := by
  rcases obAt_some h with ⟨q, h⟩ | h
  · obtain ⟨v, h1, p, h2, h3, h4⟩ := r.slt i _ h
    subst h2
    exact ⟨p, h1, h3⟩
  · obtain ⟨v, h1, p, h2, h3, h4⟩ := r.slt i _ h
    subst h2
    exact ⟨p, h1, h3⟩
/-- x.f, data -/
def mFld (C : Str) (i : Nat) (f : Str) : Env → Out D := fun Γ => match obAt Γ i with
  | some (C', fs) => if C' = C then (match fs.lookup f with
    | some (.dat d) => .ok d
    | _ => .bad) else .bad
  | none => .bad
theorem mFld_ok {C : Str} {i : Nat} {f : Str} {Q : VK} (h : Fin K mg T M H Q E (mFld C i f Γ)) : ∃ fs d, obAt Γ i = some (C, fs) ∧ fs.lookup f = some (.dat d) ∧ Fin K mg T M H Q E (.ok d) := by
  unfold mFld at h
  cases q : obAt Γ i with
  | none => rw [q] at h; exact h.elim
  | some z =>
    obtain ⟨C', fs⟩ := z
    rw [q] at h
    dsimp only at h
    by_cases e : C' = C
    · rw [if_pos e] at h
      subst e
      cases g : fs.lookup f with
      | none => rw [g] at h; exact h.elim
      | some u =>
        rw [g] at h
        cases u with
        | dat d => exact ⟨fs, d, rfl, g, h⟩
        | own ds => exact h.elim
    · rw [if_neg e] at h
      exact h.elim
section
variable {C : Str} {cl : Addr} {ns : List Str} {x f : Str} {p pos : Pos}
theorem tFld_of {i : Nat} {Q : VK} (c : ObC K mg C cl ns) (hf : f ∈ ns) (h : tOf K mg T E (mFld C i f) σ H Q) : tFld K (tVar i) f σ H Q := by
  obtain ⟨Γ, M, H0, r, f0⟩ := h
  obtain ⟨fs, d, q1, q2, q3⟩ := mFld_ok f0
  obtain ⟨p, s1, cl', dx, vs, k1, k2, k3, k4, k5⟩ := r.ob q1
  rw [c.gl] at k1
  cases k1
  obtain ⟨v, l1, l2⟩ := (k4.look (f := f)).1 _ q2
  exact ⟨.ref p, s1, p, cl, dx, vs, v, rfl, k2, c.cls, c.na f hf, l1, q3 v H M r.ext0 l2⟩
theorem e_fld (i : Nat) (c : ObC X.K X.mg C cl ns) (hf : f ∈ ns := by decide) (hN : X.N[i]? = some x := by rfl) (hv : Vis X.env.scope x := by first | exact Or.inl rfl | exact Or.inr (Or.inl rfl) | exact Or.inr (Or.inr rfl)) (hd : (x == ("__debug__" : Str)) = false := by decide)
    (hcd : (x == ("__classdict__" : Str)) = false := by decide) (hb : attributeBase (.Name x p) f X.env (eval (.Name x p) X.env) = eval (.Name x p) X.env := by rfl) : PEm X T E (.Attribute (.Name x p) f pos) (mFld C i f) :=
  weakE (pe_fld (pe_var hN hv hd hcd) hb) fun σ H Q h => tFld_of c hf h
end
/-! ### an attribute that the object alone holds, seen as data -/
def frzFl : Ob → Str → Ob
  | [], _ => []
  | (y, u) :: fs, f => if f = y then (match u with
    | .own ds => (y, .dat (.lst ds)) :: fs
    | _ => (y, u) :: fs) else (y, u) :: frzFl fs f
def noRob : Option Sl → Option Sl
  | some (.rob _ _) => none
  | x => x
def frzF (Γ : Env) (i : Nat) (f : Str) : Env := match Γ[i]? with
  | some (some (.obj C q fs)) => Γ.set i (some (.obj C q (frzFl fs f)))
  | some (some (.rob C fs)) => (Γ.map noRob).set i (some (.rob C (frzFl fs f)))
  | _ => Γ
theorem FsOk.share {a : Addr} {o : HO} (hm : M a = none) : ∀ {vs : List (Str × V)} {fs : Ob}, FsOk K mg M H vs fs → ¬ FsOwn vs fs a → FsOk K mg (upd M a o) H vs fs
  | _, _, .nil, _ => .nil
  | _, _, .cons (f := f) h1 h2, n => by
    have mm : Same M (upd M a o) := same_upd hm
    refine .cons ?_ (FsOk.share hm h2 fun z => n (.inr z))
    cases f with
    | dat d => exact Rp.mono mm h1
    | own ds =>
      obtain ⟨b, us, k1, k2, k3, k4⟩ := h1
      exact ⟨b, us, k1, k2, by rw [upd_ne (fun z => n (.inl (by subst z; exact k1)))]; exact k3, k4.mono mm⟩
/-- either nothing is frozen, or one list -/
theorem FsOk.frz {f : Str} : ∀ {vs : List (Str × V)} {fs : Ob}, FsOk K mg M H vs fs → FsNd vs fs → frzFl fs f = fs ∨ ∃ a us, FsOwn vs fs a ∧ H a = some (.lst us) ∧ M a = none ∧ FsOk K mg (upd M a (.lst us)) H vs (frzFl fs f) ∧ FsNd vs (frzFl fs f) ∧ ∀ b, FsOwn vs (frzFl fs f) b → FsOwn vs fs b ∧ b ≠ a
  | _, _, .nil, _ => .inl rfl
  | _, _, .cons (x := y) (v := v) (f := g) (vs := vs) (fs := fs) h1 h2, nd => by
    by_cases e : f = y
    · cases g with
      | dat d =>
        left
        simp [frzFl, e]
      | own ds =>
        right
        obtain ⟨a, us, k1, k2, k3, k4⟩ := h1
        subst k1
        have na : ¬ FsOwn vs fs a := nd.1 a rfl
        have er : frzFl ((y, Fl.own ds) :: fs) f = (y, .dat (.lst ds)) :: fs := by simp [frzFl, e]
        rw [er]
        refine ⟨a, us, .inl rfl, k2, k3, .cons (.lst upd_same (k4.mono (same_upd k3))) (FsOk.share k3 h2 na), ⟨fun _ z => z.elim, nd.2⟩, fun b hb => ?_⟩
        rcases hb with hb | hb
        · exact hb.elim
        · exact ⟨.inr hb, fun z => na (z ▸ hb)⟩
    · have er : frzFl ((y, g) :: fs) f = (y, g) :: frzFl fs f := by simp [frzFl, e]
      rw [er]
      rcases FsOk.frz (f := f) h2 nd.2 with q | ⟨a, us, q1, q2, q3, q4, q5, q6⟩
      · left
        rw [q]
      · right
        refine ⟨a, us, .inr q1, q2, q3, .cons ?_ q4, ⟨fun b hb z => nd.1 b hb (q6 b z).1, q5⟩, fun b hb => ?_⟩
        · cases g with
          | dat d => exact Rp.mono (same_upd q3) h1
          | own ds =>
            obtain ⟨b, us', k1, k2, k3, k4⟩ := h1
            exact ⟨b, us', k1, k2, by rw [upd_ne (fun z => nd.1 b k1 (by rw [z]; exact q1))]; exact k3, k4.mono (same_upd q3)⟩
        · rcases hb with hb | hb
          · exact ⟨.inl hb, fun z => nd.1 b hb (by rw [z]; exact q1)⟩
          · exact ⟨.inr (q6 b hb).1, (q6 b hb).2⟩
theorem ObAt.frz {p : Addr} {C f : Str} {fs : Ob} (h : ObAt K mg M H p C fs) : frzFl fs f = fs ∨ ∃ a us, ObOwn H p fs a ∧ H a = some (.lst us) ∧ M a = none ∧ ObAt K mg (upd M a (.lst us)) H p C (frzFl fs f) ∧ ∀ b, ObOwn H p (frzFl fs f) b → ObOwn H p fs b ∧ b ≠ a := by
  obtain ⟨cl, dx, vs, h1, h2, h3, h4, h5⟩ := h
  rcases h4.frz (f := f) h5 with q | ⟨a, us, q1, q2, q3, q4, q5, q6⟩
  · exact .inl q
  · have pa : p ≠ a := fun z => by
      subst z
      rw [h2] at q2
      cases q2
    refine .inr ⟨a, us, .inr ⟨cl, dx, vs, h2, q1⟩, q2, q3, ⟨cl, dx, vs, h1, h2, by rw [upd_ne pa]; exact h3, q4, q5⟩, fun b hb => ?_⟩
    rcases hb with rfl | ⟨cl', dx', vs', z1, z2⟩
    · exact ⟨.inl rfl, pa⟩
    · rw [h2] at z1
      cases z1
      exact ⟨.inr ⟨_, _, _, h2, (q6 b z2).1⟩, (q6 b z2).2⟩
theorem NoT.lst {a : Addr} {us : List V} (nt : NoT T M H) : NoT T (upd M a (.lst us)) H := ⟨fun b o hb => by
    by_cases q : b = a
    · subst q
      rw [upd_same] at hb
      cases hb
      exact True.intro
    · rw [upd_ne q] at hb
      exact nt.kd b o hb, nt.pl.monoM fun b C dx fs hb => memo_lst hb⟩
theorem same_lst {a : Addr} {us : List V} (ms : Same M H) (h : H a = some (.lst us)) : Same (upd M a (.lst us)) H := fun b o hb => by
  by_cases q : b = a
  · subst q
    rw [upd_same] at hb
    rw [← hb]
    exact h
  · rw [upd_ne q] at hb
    exact ms b o hb
/-- less is known -/
theorem Rs.less {Γ' : Env} (r : Rs K mg T H0 M H Γ σ) (hl : Γ'.length = Γ.length) (h : ∀ (j : Nat) s, Γ'[j]? = some (some s) → Γ[j]? = some (some s)) : Rs K mg T H0 M H Γ' σ :=
  ⟨r.ms, r.nt, r.tb, hl.trans r.len, fun j s q => r.slt j s (h j s q), fun i j s t v w a q1 q2 => r.dj i j s t v w a (h i s q1) (h j t q2)⟩
theorem noRob_get {j : Nat} {s : Sl} (h : (Γ.map noRob)[j]? = some (some s)) : Γ[j]? = some (some s) ∧ ∀ C fs, s ≠ .rob C fs := by
  rw [List.getElem?_map] at h
  cases q : Γ[j]? with
  | none => rw [q] at h; cases h
  | some o =>
    rw [q] at h
    cases o with
    | none => cases h
    | some t =>
      cases t with
      | rob C fs => cases h
      | _ => cases h; exact ⟨rfl, fun _ _ z => by cases z⟩
/-- a list that slot i alone holds (or that was there at the entry) is shared from now on -/
theorem Rs.share (r : Rs K mg T H0 M H Γ σ) {i : Nat} {v : V} {t0 t1 : Sl} {a : Addr} {us : List V} (hi : Γ[i]? = some (some t0)) (hs : σ[i]? = some (some v)) (ha : H a = some (.lst us)) (hm : M a = none) (new : SlOk K mg H0 (upd M a (.lst us)) H v t1)
    (ho : ∀ b, Owns H v t1 b → Owns H v t0 b) (nj : ∀ (j : Nat) t w, i ≠ j → Γ[j]? = some (some t) → σ[j]? = some (some w) → ¬ Owns H w t a ∧ ∀ C fs p, t = .rob C fs → w = .ref p → ¬ ObOwn H p fs a) : Rs K mg T H0 (upd M a (.lst us)) H (Γ.set i (some t1)) σ := by
  refine ⟨same_lst r.ms ha, r.nt.lst, r.tb, by rw [List.length_set, r.len], fun j t q => ?_, fun j k t u w x b q1 q2 q3 q4 o1 o2 => ?_⟩
  · rcases set_get q with ⟨rfl, _, z⟩ | ⟨hj, q⟩
    · cases z
      exact ⟨v, hs, new⟩
    · obtain ⟨w, w1, w2⟩ := r.slt j t q
      have n := nj j t w hj q w1
      exact ⟨w, w1, w2.share n.1 hm (fun p fs C z1 z2 => n.2 C fs p z1 z2) fun b hb => hb.of fun x C dx fs hx => memo_lst hx⟩
  · rcases set_get q1 with ⟨rfl, _, z⟩ | ⟨hj, q1⟩
    · cases z
      rw [hs] at q3
      cases q3
      rcases set_get q2 with ⟨rfl, _, z⟩ | ⟨hk, q2⟩
      · rfl
      · exact r.dj _ _ _ _ _ _ b hi q2 hs q4 (ho b o1) o2
    · rcases set_get q2 with ⟨rfl, _, z⟩ | ⟨hk, q2⟩
      · cases z
        rw [hs] at q4
        cases q4
        exact r.dj _ _ _ _ _ _ b q1 hi q3 hs o1 (ho b o2)
      · exact r.dj j k t u w x b q1 q2 q3 q4 o1 o2
theorem set_same {Γ : Env} {i : Nat} {o : Option Sl} (h : Γ[i]? = some o) : Γ.set i o = Γ := by
  apply List.ext_getElem?
  intro j
  by_cases e : i = j
  · subst e
    rw [List.getElem?_set_self (lt_of_some h), h]
  · rw [List.getElem?_set_ne e]
/-- the relation for the frozen sight -/
theorem Rs.frzF (r : Rs K mg T H0 M H Γ σ) (i : Nat) (f : Str) : Rs K mg T H0 M H (FL.frzF Γ i f) σ ∨ ∃ a us, H a = some (.lst us) ∧ M a = none ∧ (∀ C q fs, Γ[i]? = some (some (.obj C q fs)) → Fr H0 a) ∧ Rs K mg T H0 (upd M a (.lst us)) H (FL.frzF Γ i f) σ := by
  unfold FL.frzF
  cases q : Γ[i]? with
  | none => exact .inl r
  | some o =>
    cases o with
    | none => exact .inl r
    | some s =>
      cases s with
      | obj C q0 fs =>
        dsimp only
        obtain ⟨v, s1, p, s2, s3, s4, s5⟩ := r.slt i _ q
        subst s2
        rcases s3.frz (f := f) with z | ⟨a, us, q1, q2, q3, q4, q5⟩
        · left
          rw [z, set_same q]
          exact r
        · right
          refine ⟨a, us, q2, q3, fun _ _ _ _ => s4 a q1, r.share (t0 := .obj C q0 fs) q s1 q2 q3 ⟨p, rfl, q4, fun b hb => s4 b (q5 b hb).1, s5⟩ (fun b hb => ?_) fun j t w hj k1 k2 => ⟨fun z => hj (r.dj i j _ t _ w a q k1 s1 k2 ⟨p, rfl, q1⟩ z), fun C' fs' p' z1 z2 z3 => ?_⟩⟩
          · obtain ⟨p', e1, e2⟩ := hb
            cases e1
            exact ⟨p, rfl, (q5 b e2).1⟩
          · subst z1
            obtain ⟨w', l1, p2, l2, l3, l4⟩ := r.slt j _ k1
            rw [k2] at l1
            cases l1
            rw [z2] at l2
            cases l2
            exact (s4 a q1).ne (l4 a z3) rfl
      | rob C fs =>
        dsimp only
        obtain ⟨v, s1, p, s2, s3, s4⟩ := r.slt i _ q
        subst s2
        have r2 : Rs K mg T H0 M H ((Γ.map noRob).set i (some (.rob C fs))) σ := r.less (by rw [List.length_set, List.length_map]) fun j s h => by
          rcases set_get h with ⟨rfl, _, z⟩ | ⟨hj, h⟩
          · cases z
            exact q
          · exact (noRob_get h).1
        rcases s3.frz (f := f) with z | ⟨a, us, q1, q2, q3, q4, q5⟩
        · left
          rw [z]
          exact r2
        · right
          have hl : i < (Γ.map noRob).length := by rw [List.length_map]; exact lt_of_some q
          have r3 := r2.share (t0 := .rob C fs) (t1 := .rob C (frzFl fs f)) (List.getElem?_set_self hl) s1 q2 q3 ⟨p, rfl, q4, fun b hb => s4 b (q5 b hb).1⟩ (fun b hb => hb) fun j t w hj k1 k2 => ?_
          · rw [List.set_set] at r3
            exact ⟨a, us, q2, q3, fun _ _ _ z => (by cases z), r3⟩
          · rw [List.getElem?_set_ne hj] at k1
            obtain ⟨k1, k3⟩ := noRob_get k1
            obtain ⟨w', l1, l2⟩ := r.slt j _ k1
            rw [k2] at l1
            cases l1
            exact ⟨fun z => (z.fr l2).ne (s4 a q1) rfl, fun C' fs' p' z1 => absurd z1 (k3 C' fs')⟩
      | _ => exact .inl r
/-! ### a list that was shared for a while -/
def shedM (M : Hp) (a : Addr) : Hp := fun b => if b = a then none else M b
theorem shed_ne {a b : Addr} (h : b ≠ a) : shedM M a b = M b := if_neg h
theorem shed_some {a b : Addr} {o : HO} (h : shedM M a b = some o) : b ≠ a ∧ M b = some o := by
  unfold shedM at h
  by_cases e : b = a
  · rw [if_pos e] at h
    cases h
  · rw [if_neg e] at h
    exact ⟨e, h⟩
theorem Ext.shed {a : Addr} {us : List V} (hm : M a = none) (e : Ext T (upd M a (.lst us)) H M' H') : Ext T M H (shedM M' a) H' where
  kp := e.kp
  ke := fun b φ h => by
    rcases e.ke b φ h with q | ⟨q1, q2⟩
    · exact .inl q
    · exact .inr ⟨q1.of fun x C dx fs hx => memo_lst hx, q2⟩
  tb := e.tb
  mm := fun b o h => by
    have hb : b ≠ a := fun z => by
      rw [z, hm] at h
      cases h
    rw [shed_ne hb]
    exact e.mm b o (by rw [upd_ne hb]; exact h)
  ms := fun b o h => e.ms b o (shed_some h).2
  nt := ⟨fun b o h => e.nt.kd b o (shed_some h).2, e.nt.pl.monoM fun p C dx fs h => (shed_some h).2⟩
  nw := fun b o h => by
    obtain ⟨h1, h2⟩ := shed_some h
    rcases e.nw b o h2 with q | q
    · rw [upd_ne h1] at q
      exact .inl q
    · exact .inr q
  nm := fun b h => by
    rcases e.nm b (h.of fun p C dx fs h => (shed_some h).2) with q | q
    · exact .inl (q.of fun x C dx fs hx => memo_lst hx)
    · exact .inr q
/-- data that does not hang on a list -/
def shd : D → Bool
  | .non => true
  | .bl _ => true
  | .int _ => true
  | .str _ => true
  | .row _ => true
  | .tup ds => ds.all flat
  | _ => false
theorem flat_rp {v : V} {d : D} (h : Rp K mg M v d) (f : flat d = true) : ∀ M1, Rp K mg M1 v d := fun M1 => by
  cases h with
  | non => exact .non
  | bl b => exact .bl b
  | int i => exact .int i
  | str x => exact .str x
  | _ => cases f
theorem flat_rpL : ∀ {vs : List V} {ds : List D}, RpL K mg M vs ds → ds.all flat = true → ∀ M1, RpL K mg M1 vs ds
  | _, _, .nil, _, _ => .nil
  | _, _, .cons h r, f, M1 => by
    rw [List.all_cons, Bool.and_eq_true] at f
    exact .cons (flat_rp h f.1 M1) (flat_rpL r f.2 M1)
theorem Rp.shed {v : V} {d : D} {a : Addr} {us : List V} (h : Rp K mg M v d) (f : shd d = true) (ha : M a = some (.lst us)) : Rp K mg (shedM M a) v d := by
  cases h with
  | non => exact .non
  | bl b => exact .bl b
  | int i => exact .int i
  | str x => exact .str x
  | @row b p q =>
    obtain ⟨o, h1, h2⟩ := q
    exact .row ⟨o, by rw [shed_ne (ne_of h1 ha (fun z => by cases z))]; exact h1, h2⟩
  | @tup b vs ds h1 h2 =>
    refine .tup ?_ (flat_rpL h2 f _)
    rcases h1 with (h1 | ⟨o, h1⟩) | h1
    · exact .inl (.inl (by rw [shed_ne (ne_of h1 ha (fun z => by cases z))]; exact h1))
    · exact .inl (.inr ⟨o, by rw [shed_ne (ne_of h1 ha (fun z => by cases z))]; exact h1⟩)
    · exact .inr h1
  | _ => cases f
def shdO : Out D → Out D
  | .ok d => if shd d = true then .ok d else .bad
  | o => o
def mFrz (i : Nat) (f : Str) (m : Env → Out D) : Env → Out D := fun Γ => shdO (m (frzF Γ i f))
def tFrz (i : Nat) (f : Str) (m : Env → Out Bool) : Env → Out Bool := fun Γ => m (frzF Γ i f)
theorem e_frz {e : Expr} {m : Env → Out D} (i : Nat) (f : Str) (h : PEm X T E e m) : PEm X T E e (mFrz i f m) := weakE h fun σ H Q h => by
  obtain ⟨Γ, M, H0, r, f0⟩ := h
  unfold mFrz at f0
  rcases r.frzF i f with r2 | ⟨a, us, h1, h2, h3, r2⟩
  · refine ⟨_, M, H0, r2, ?_⟩
    cases q : m (frzF Γ i f) with
    | ok d =>
      rw [q] at f0
      have f0 : Fin X.K X.mg T M H Q E (if shd d = true then .ok d else .bad) := f0
      by_cases hs : shd d = true
      · rw [if_pos hs] at f0
        exact f0
      · rw [if_neg hs] at f0
        exact f0.elim
    | exc c => rw [q] at f0; exact f0
    | bad => rw [q] at f0; exact f0
  · refine ⟨_, _, H0, r2, ?_⟩
    cases q : m (frzF Γ i f) with
    | ok d =>
      rw [q] at f0
      have f0 : Fin X.K X.mg T M H Q E (if shd d = true then .ok d else .bad) := f0
      by_cases hs : shd d = true
      · rw [if_pos hs] at f0
        exact fun v H' M' e1 r1 => f0 v H' _ (e1.shed h2) (r1.shed hs (e1.mm a _ upd_same))
      · rw [if_neg hs] at f0
        exact f0.elim
    | exc c =>
      rw [q] at f0
      exact fun C H' M' e1 hC => f0 C H' _ (e1.shed h2) hC
    | bad => rw [q] at f0; exact f0
theorem t_frz {e : Expr} {m : Env → Out Bool} (i : Nat) (f : Str) (h : PTm X T E e m) : PTm X T E e (tFrz i f m) := weakT h fun σ H Q h => by
  obtain ⟨Γ, M, H0, r, f0⟩ := h
  unfold tFrz at f0
  rcases r.frzF i f with r2 | ⟨a, us, h1, h2, h3, r2⟩
  · exact ⟨_, M, H0, r2, f0⟩
  · refine ⟨_, _, H0, r2, ?_⟩
    cases q : m (frzF Γ i f) with
    | ok d =>
      rw [q] at f0
      exact fun H' M' e1 => f0 H' _ (e1.shed h2)
    | exc c =>
      rw [q] at f0
      exact fun C H' M' e1 hC => f0 C H' _ (e1.shed h2) hC
    | bad => rw [q] at f0; exact f0
/-- an object's list is shared for good -/
def sFrzF (i : Nat) (f : Str) (m : Env → SO) : Env → SO := fun Γ => match Γ[i]? with
  | some (some (.obj _ _ _)) => m (frzF Γ i f)
  | _ => .bad
theorem sOf_frzF {i : Nat} {f : Str} {m : Env → SO} {Dn : Ends} (h : sOf K mg T E (sFrzF i f m) Dn σ H) : sOf K mg T E m Dn σ H := by
  obtain ⟨Γ, M, M0, H0, e, r, f0⟩ := h
  unfold sFrzF at f0
  cases q : Γ[i]? with
  | none => rw [q] at f0; exact f0.elim
  | some o =>
    rw [q] at f0
    cases o with
    | none => exact f0.elim
    | some s =>
      cases s with
      | obj C q0 fs =>
        dsimp only at f0
        rcases r.frzF i f with r2 | ⟨a, us, h1, h2, h3, r2⟩
        · exact ⟨_, M, M0, H0, e, r2, f0⟩
        · have fr := h3 C q0 fs q
          refine ⟨_, _, M0, H0, ⟨e.kp, e.ke, e.tb, e.mm.trans (same_upd h2), r2.ms, r2.nt, fun b o hb => ?_, fun b hb => e.nm b (hb.of fun x C dx fs hx => memo_lst hx)⟩, r2, f0⟩
          by_cases z : b = a
          · subst z
            exact .inr fr
          · rw [upd_ne z] at hb
            exact e.nw b o hb
      | _ => exact f0.elim
theorem s_frzF {m : Env → SO} {st : Stmt} (i : Nat) (f : Str) (h : PSm X T E st m) : PSm X T E st (sFrzF i f m) := weakS h fun _ _ _ h => sOf_frzF h
theorem ss_frzF {m : Env → SO} {st : List Stmt} (i : Nat) (f : Str) (h : PSsm X T E st m) : PSsm X T E st (sFrzF i f m) := weakSs h fun _ _ _ h => sOf_frzF h
end FL
set_option Elab.async false
set_option linter.all false
set_option maxRecDepth 100000
set_option maxHeartbeats 4000000
/-! methods that read; methods that write -/
namespace FL
open PySem PySem.Spec PyProof.Rows L2 LamX
variable {X : Cx} {K : PySem.W.Frag} {mg : Str → Option Value} {T : Tb} {E : XK} {M M0 M1 M' H H0 H1 H' : Hp} {Γ : Env} {σ : L2.St}
/-! ### methods that read -/
def spRo (K : PySem.W.Frag) (mg : Str → Option Value) (T : Tb) (C : Str) (n : Nat) (f : Ob → List D → Out D) : Sp := fun vs H Q E => vs.length = n + 1 ∧ Tabs T H ∧ ∃ M p us fs ds, vs = .ref p :: us ∧ Same M H ∧ NoT T M H ∧ ObAt K mg M H p C fs ∧ RpL K mg M us ds ∧ Fin K mg T M H Q E (f fs ds)
def MtR (P : Program) (w : World) (K : PySem.W.Frag) (mg : Str → Option Value) (base : Heap) (T : Tb) (C : Str) (cl : Addr) (k : Nat) (m : Str) (n : Nat) (f : Ob → List D → Out D) : Prop :=
  ∃ (a : Addr) (fd : FuncData) (ps : List Str), Meth K cl m a ∧ Binds K fd ps [] ∧ FnOk P w K mg base (L2N.CX P w) k a fd ps (spRo K mg T C n f)
theorem MtR.mono {P : Program} {w : World} {base : Heap} {C : Str} {cl : Addr} {j k : Nat} {x : Str} {n : Nat} {f : Ob → List D → Out D} (h : MtR P w K mg base T C cl j x n f) (hj : j ≤ k) : MtR P w K mg base T C cl k x n f := by
  obtain ⟨a, fd, ps, h1, h2, h3⟩ := h
  exact ⟨a, fd, ps, h1, h2, h3.mono hj⟩
def defR (C : Str) (k : Nat) (m : Env → SO) : Ob → List D → Out D := fun fs ds => match m ((some (Sl.rob C fs) :: ds.map (fun d => some (.dat d))) ++ List.replicate k none) with
  | .rt d => .ok d
  | .nx _ => .ok .non
  | .exc c => .exc c
  | _ => .bad
theorem Rs.startO {p : Addr} {us : List V} {ds : List D} {N : List Str} {s : Sl} (ms : Same M H) (nt : NoT T M H) (tb : Tabs T H) (h0 : SlOk K mg H0 M H (.ref p) s) (r : RpL K mg M us ds) :
    Rs K mg T H0 M H ((some s :: ds.map (fun d => some (.dat d))) ++ List.replicate (N.length - (us.length + 1)) none) (L2.start N (.ref p :: us)) := by
  have := Rs.startS (K := K) (mg := mg) (T := T) (H0 := H0) (M := M) (H := H) (vs := .ref p :: us) (ss := s :: ds.map Sl.dat) (N := N) ms nt tb (by rw [List.length_cons, List.length_cons, List.length_map, r.length]) (fun i s' q => by
    cases i with
    | zero => cases q; exact ⟨_, rfl, h0⟩
    | succ i =>
      rw [List.getElem?_cons_succ, List.getElem?_map] at q
      cases h : ds[i]? with
      | none => rw [h] at q; cases q
      | some d =>
        rw [h] at q
        cases q
        rw [List.getElem?_cons_succ]
        exact r.get h) (fun i s' v a hi q _ o => by
    cases i with
    | zero => exact hi rfl
    | succ i =>
      rw [List.getElem?_cons_succ, List.getElem?_map] at q
      cases h : ds[i]? with
      | none => rw [h] at q; cases q
      | some d =>
        rw [h] at q
        cases q
        exact o)
  rw [List.map_cons, List.map_map, List.length_cons] at this
  exact this
theorem body_ofR {N : List Str} {vs : List V} {n : Nat} {C : Str} {m : Env → SO} {Q : VK} (h : spRo K mg T C n (defR C (N.length - (n + 1)) m) vs H Q E) : sOf K mg T E m { nx := fun _ H' => Q .non H', rt := Q } (L2.start N vs) H := by
  obtain ⟨hn, tb, M, p, us, fs, ds, rfl, ms, nt, ob, r, f⟩ := h
  have rs := Rs.startO (K := K) (mg := mg) (H0 := H) (N := N) (s := .rob C fs) ms nt tb ⟨p, rfl, ob, fun a ha => by
    obtain ⟨⟨o, q1, q2, _⟩, _⟩ := ob.own_kept ha
    exact ⟨o, q1, q2⟩⟩ r
  refine ⟨_, M, M, H, Ext.refl ms nt, rs, ?_⟩
  have hn : us.length = n := by simpa using hn
  rw [hn]
  unfold defR at f
  cases q : m ((some (Sl.rob C fs) :: ds.map (fun d => some (.dat d))) ++ List.replicate (N.length - (n + 1)) none) with
  | nx Γ =>
    rw [q] at f
    exact fun σ H M e r => f .non H M e .non
  | rt d =>
    rw [q] at f
    exact f
  | exc c =>
    rw [q] at f
    exact f
  | bk Γ =>
    rw [q] at f
    exact f.elim
  | ct Γ =>
    rw [q] at f
    exact f.elim
  | bad =>
    rw [q] at f
    exact f.elim
/-- THE RULE for a method that reads -/
theorem def_okR {P : Program} {w : World} {base : Heap} {C : Str} {cl : Addr} {x q : Str} {params : Arguments} {body : List Stmt} {scope : Scope} {a : Addr} {fd : FuncData} {N ps : List Str} {k : Nat} {m : Env → SO} (n : Nat) (F : FunD K x q params body scope [] [] a fd) (S : FnScope N ps scope) (hn : ps.length = n + 1) (hg : Meth K cl x a)
    (hb : ∀ (kV doc pm : Value) (an : Option Addr) (cdv ct : Value) (us : List Value), us.length = ps.length → bindArgs (PySem.W.fnOf x q params body scope .none kV doc pm an cdv ct) ⟨us, []⟩ = pure (ps.zip us))
    (hbody : ∀ (cdv : Value) (A : Around) (outer : List PySem.Env) (s : Shared) (H : Hp) (E : XK), Room k (A.deeper (envOfC q scope s.heap.objs.size a cdv)) →
      PSsm (cxOf (L2N.CX P w) P w K mg base N q scope a cdv A outer s H E) T E body m) : MtR P w K mg base T C cl (k + 1) x n (defR C (N.length - (n + 1)) m) :=
  ⟨a, fd, ps, hg, F.bindsN hb, F.ok S (fun vs H Q E h => h.1.trans hn.symm) fun cdv A outer s H vs Q E hr h => ⟨_, hbody cdv A outer s H E hr, body_ofR h⟩⟩
def mMR (C : Str) (i : Nat) (m : Str) (n : Nat) (f : Ob → List D → Out D) (ms : Env → Out (List D)) : Env → Out D := fun Γ => match obAt Γ i with
  | some (C', fs) => if C' = C ∧ (fs.lookup m).isNone = true then (ms Γ).bind fun ds => if ds.length = n then f fs ds else .bad else .bad
  | none => .bad
theorem isNone_eq {α : Type} {o : Option α} (h : o.isNone = true) : o = none := by
  cases o with
  | none => rfl
  | some _ => cases h
theorem tMeth_ofR {C : Str} {cl : Addr} {ns : List Str} {i n : Nat} {m : Str} {f : Ob → List D → Out D} {ms : Env → Out (List D)} {Q : VK} (c : ObC K mg C cl ns) (h : tOf K mg T E (mMR C i m n f ms) σ H Q) : tMeth cl m (spRo K mg T C n f) [] E (tVar i) (taOf K mg T E ms) σ H Q := by
  obtain ⟨Γ, M, H0, r, f0⟩ := h
  unfold mMR at f0
  cases q : obAt Γ i with
  | none => rw [q] at f0; exact f0.elim
  | some z =>
    obtain ⟨C', fs⟩ := z
    rw [q] at f0
    dsimp only at f0
    by_cases e : C' = C ∧ (fs.lookup m).isNone = true
    · rw [if_pos e] at f0
      obtain ⟨rfl, e2⟩ := e
      have e2 := isNone_eq e2
      obtain ⟨p, s1, ob⟩ := r.ob q
      have ob' := ob
      obtain ⟨cl', dx, vs, k1, k2, k3, k4, k5⟩ := ob
      rw [c.gl] at k1
      cases k1
      refine ⟨.ref p, s1, p, dx, vs, rfl, k2, (k4.look (f := m)).2 e2, Γ, M, H0, r, FinA.bindE f0 fun ds us H2 M2 _ e1 r1 f1 => ?_⟩
      have rs := r.ext e1
      by_cases hn : ds.length = n
      · rw [if_pos hn] at f1
        rw [List.append_nil]
        exact ⟨by rw [List.length_cons, r1.length, hn], rs.tb, M2, p, us, fs, ds, rfl, rs.ms, rs.nt, ob'.ext e1, r1, f1⟩
      · rw [if_neg hn] at f1
        exact f1.elim
    · rw [if_neg e] at f0
      exact f0.elim
section
variable {C : Str} {cl : Addr} {ns : List Str} {x m : Str} {p apos pos : Pos} {pl : Sem Bool} {n k : Nat} {e : Expr} {es : List Expr} {ms : Env → Out (List D)}
theorem e_methR {f : Ob → List D → Out D} (i : Nat) (c : ObC X.K X.mg C cl ns) (F : MtR X.prog X.w X.K X.mg X.base T C cl k m n f) (hr : Room k X.A) (hx : Passes (L2N.CX X.prog X.w) X E) (ha : PAm X T E (e :: es) ms) (hN : X.N[i]? = some x := by rfl) (hv : Vis X.env.scope x := by first | exact Or.inl rfl | exact Or.inr (Or.inl rfl) | exact Or.inr (Or.inr rfl)) (hd : (x == ("__debug__" : Str)) = false := by decide)
    (hcd : (x == ("__classdict__" : Str)) = false := by decide) (hst : starEach (e :: es) X.env = (false, eval e X.env) :: starEach es X.env := by rfl) (hpl : (backTo pos (starEach es X.env)).any (·.1) = false := by rfl)
    (ht : eval (.Call (.Attribute (.Name x p) m apos) (e :: es) [] pos) X.env = (do
      let ov ← eval (.Name x p) X.env
      standAt apos.atName
      let (f, first) ← holding [ov] (getMethod ov m pl)
      callWith pos f first (backTo pos (starEach (e :: es) X.env)) (backToKw pos (keywordEach [] X.env))) := by rfl) :
    PEm X T E (.Call (.Attribute (.Name x p) m apos) (e :: es) [] pos) (mMR C i m n f ms) := by
  obtain ⟨a, fd, ps, h1, h2, h3⟩ := F
  exact weakE (pe_meth (pl := pl) (pe_var hN hv hd hcd) c.cls h1 h3 hr h2 .nil hx ha hst hpl ht) fun σ H Q h => tMeth_ofR c h
theorem e_methR0 {f : Ob → List D → Out D} (i : Nat) (c : ObC X.K X.mg C cl ns) (F : MtR X.prog X.w X.K X.mg X.base T C cl k m n f) (hr : Room k X.A) (hx : Passes (L2N.CX X.prog X.w) X E) (hN : X.N[i]? = some x := by rfl) (hv : Vis X.env.scope x := by first | exact Or.inl rfl | exact Or.inr (Or.inl rfl) | exact Or.inr (Or.inr rfl)) (hd : (x == ("__debug__" : Str)) = false := by decide)
    (hcd : (x == ("__classdict__" : Str)) = false := by decide)
    (ht : eval (.Call (.Attribute (.Name x p) m apos) [] [] pos) X.env = (do
      let ov ← eval (.Name x p) X.env
      standAt apos.atName
      let (f, first) ← holding [ov] (getMethod ov m pl)
      callWith pos f first (backTo pos (starEach [] X.env)) (backToKw pos (keywordEach [] X.env))) := by rfl) :
    PEm X T E (.Call (.Attribute (.Name x p) m apos) [] [] pos) (mMR C i m n f mNil) := by
  obtain ⟨a, fd, ps, h1, h2, h3⟩ := F
  refine weakE (pe_meth0 (pl := pl) (pe_var hN hv hd hcd) c.cls h1 h3 hr h2 .nil hx ht) fun σ H Q h => ?_
  obtain ⟨v, s1, p, dx, fs, e1, e2, e3, Γ1, M1, H01, r1, f1⟩ := tMeth_ofR (ms := mNil) c h
  exact ⟨v, s1, p, dx, fs, e1, e2, e3, f1 [] H M1 r1.ext0 .nil⟩
end
/-! ### methods that write -/
open Classical in
noncomputable def cutH (H : Hp) (p : Addr) (fs : Ob) : Hp := fun a => if ObOwn H p fs a then none else H a
theorem cut_some {p : Addr} {fs : Ob} {a : Addr} {o : HO} (h : cutH H p fs a = some o) : ¬ ObOwn H p fs a ∧ H a = some o := by
  unfold cutH at h
  by_cases q : ObOwn H p fs a
  · rw [if_pos q] at h
    cases h
  · rw [if_neg q] at h
    exact ⟨q, h⟩
theorem cut_of {p : Addr} {fs : Ob} {a : Addr} (h : ¬ ObOwn H p fs a) : cutH H p fs a = H a := if_neg h
theorem cut_own {p : Addr} {fs : Ob} {a : Addr} (h : ObOwn H p fs a) : cutH H p fs a = none := if_pos h
theorem Ext.cut (ms : Same M H) (nt : NoT T M H) (tb : Tabs T H) {p : Addr} {fs : Ob} : Ext T M (cutH H p fs) M H where
  kp := fun b o h _ => (cut_some h).2
  ke := fun b φ h => .inl (cut_some h).2
  tb := fun _ => tb
  mm := Same.refl M
  ms := ms
  nt := nt
  nw := fun _ _ h => .inl h
  nm := fun _ h => .inl h
inductive SW where
  | ok (d : D) (Γ : Env) | bad
/-- a method that writes: by the object's place, its attributes, the arguments -/
abbrev WF := Addr → Ob → List D → Out (D × Ob)
def FinW (K : PySem.W.Frag) (mg : Str → Option Value) (T : Tb) (M H : Hp) (p : Addr) (C : Str) (fs : Ob) (Q : VK) : Out (D × Ob) → Prop
  | .ok (d, fs') => ∀ v H' M', Ext T M (cutH H p fs) M' H' → ObAt K mg M' H' p C fs' → (∀ a, ObOwn H' p fs' a → Fr (cutH H p fs) a) → Tabs T H' → Rp K mg M' v d → Q v H'
  | _ => False
def spWo (K : PySem.W.Frag) (mg : Str → Option Value) (T : Tb) (C : Str) (n : Nat) (f : WF) : Sp := fun vs H Q E => vs.length = n + 1 ∧ Tabs T H ∧ ∃ M p us fs ds, vs = .ref p :: us ∧ Same M H ∧ NoT T M H ∧ ObAt K mg M H p C fs ∧ RpL K mg M us ds ∧ FinW K mg T M H p C fs Q (f p fs ds)
def MtW (P : Program) (w : World) (K : PySem.W.Frag) (mg : Str → Option Value) (base : Heap) (T : Tb) (C : Str) (cl : Addr) (k : Nat) (m : Str) (n : Nat) (f : WF) : Prop :=
  ∃ (a : Addr) (fd : FuncData) (ps : List Str), Meth K cl m a ∧ Binds K fd ps [] ∧ FnOk P w K mg base (L2N.CX P w) k a fd ps (spWo K mg T C n f)
theorem MtW.mono {P : Program} {w : World} {base : Heap} {C : Str} {cl : Addr} {j k : Nat} {x : Str} {n : Nat} {f : WF} (h : MtW P w K mg base T C cl j x n f) (hj : j ≤ k) : MtW P w K mg base T C cl k x n f := by
  obtain ⟨a, fd, ps, h1, h2, h3⟩ := h
  exact ⟨a, fd, ps, h1, h2, h3.mono hj⟩
/-- the end of a body, with what the slots hold then -/
def FinSW (K : PySem.W.Frag) (mg : Str → Option Value) (T : Tb) (M0 H0 : Hp) (Dn : Ends) : SW → Prop
  | .ok d Γ => (∀ v σ H M, Ext T M0 H0 M H → Rs K mg T H0 M H Γ σ → Rp K mg M v d → Dn.rt v H) ∧ (d = .non → ∀ σ H M, Ext T M0 H0 M H → Rs K mg T H0 M H Γ σ → Dn.nx σ H)
  | .bad => False
def sOfW (K : PySem.W.Frag) (mg : Str → Option Value) (T : Tb) (m : Env → SW) : TS := fun Dn σ H => ∃ Γ M M0 H0, Ext T M0 H0 M H ∧ Rs K mg T H0 M H Γ σ ∧ FinSW K mg T M0 H0 Dn (m Γ)
abbrev PSsW (X : Cx) (T : Tb) (st : List Stmt) (m : Env → SW) : Prop := PSs X st (sOfW X.K X.mg T m)
def wEnd : Env → SW := fun Γ => .ok .non Γ
def wSeq (m : Env → SO) (n : Env → SW) : Env → SW := fun Γ => match m Γ with
  | .nx Γ' => n Γ'
  | _ => .bad
def wRet (m : Env → Out D) : Env → SW := fun Γ => match m Γ with
  | .ok d => .ok d Γ
  | _ => .bad
theorem w_end : PSsW X T [] wEnd := weakSs pss_nil fun Dn σ H h => by
  obtain ⟨Γ, M, M0, H0, e, r, f⟩ := h
  exact f.2 rfl σ H M e r
theorem w_cons {st : Stmt} {rest : List Stmt} {m : Env → SO} {n : Env → SW} (h1 : PSm X T E st m) (h2 : PSsW X T rest n) : PSsW X T (st :: rest) (wSeq m n) := weakSs (pss_cons h1 h2) fun Dn σ H h => by
  obtain ⟨Γ, M, M0, H0, e, r, f⟩ := h
  refine ⟨Γ, M, M0, H0, e, r, ?_⟩
  unfold wSeq at f
  cases q : m Γ with
  | nx Γ' =>
    rw [q] at f
    exact fun σ' H' M' e' r' => ⟨Γ', M', M0, H0, e', r', f⟩
  | _ =>
    rw [q] at f
    exact f.elim
theorem w_ret {e : Expr} {m : Env → Out D} {pos : Pos} (h : PEm X T E e m) : PSsW X T [.Return (some e) pos] (wRet m) := weakSs (pss_one (ps_ret h)) fun Dn σ H h => by
  obtain ⟨Γ, M, M0, H0, e, r, f⟩ := h
  refine ⟨Γ, M, H0, r, ?_⟩
  unfold wRet at f
  cases q : m Γ with
  | ok d =>
    rw [q] at f
    exact fun v H1 M1 e1 r1 => f.1 v σ H1 M1 (e.trans e1) (r.ext e1) r1
  | exc c =>
    rw [q] at f
    exact f.elim
  | bad =>
    rw [q] at f
    exact f.elim
/-- a statement that is not come to -/
def sBad : Env → SO := fun _ => .bad
theorem s_bad {st : Stmt} : PSm X T E st sBad := ⟨fun pins s σ H D I h => by
  obtain ⟨Γ, M, M0, H0, e, r, f⟩ := h
  exact f.elim⟩
theorem ss_bad {st : List Stmt} : PSsm X T E st sBad := ⟨fun pins s σ H D I h => by
  obtain ⟨Γ, M, M0, H0, e, r, f⟩ := h
  exact f.elim⟩
def obj0 (Γ : Env) : Option (Str × Option Addr × Ob) := match (Γ[0]? : Option (Option Sl)) with
  | some (some (Sl.obj C q fs)) => some (C, q, fs)
  | _ => none
theorem obj0_some {C : Str} {q : Option Addr} {fs : Ob} (h : obj0 Γ = some (C, q, fs)) : Γ[0]? = some (some (.obj C q fs)) := by
  unfold obj0 at h
  cases z : Γ[0]? with
  | none => rw [z] at h; cases h
  | some o =>
    rw [z] at h
    cases o with
    | none => cases h
    | some s =>
      cases s with
      | obj C q fs => cases h; rfl
      | _ => cases h
def outW (C : Str) (p : Addr) : SW → Out (D × Ob)
  | .ok d Γ => match obj0 Γ with
    | some (C', q, fs') => if C' = C ∧ q = some p then .ok (d, fs') else .bad
    | none => .bad
  | .bad => .bad
/-- what a body that writes makes of its object and arguments -/
def defW (C : Str) (k : Nat) (m : Env → SW) : WF := fun p fs ds => outW C p (m ((some (Sl.obj C (some p) fs) :: ds.map (fun d => some (.dat d))) ++ List.replicate k none))
theorem body_ofW {N : List Str} {vs : List V} {n : Nat} {C : Str} {m : Env → SW} {Q : VK} (h : spWo K mg T C n (defW C (N.length - (n + 1)) m) vs H Q E) : sOfW K mg T m { nx := fun _ H' => Q .non H', rt := Q } (L2.start N vs) H := by
  obtain ⟨hn, tb, M, p, us, fs, ds, rfl, ms, nt, ob, r, f⟩ := h
  have rs := Rs.startO (K := K) (mg := mg) (H0 := cutH H p fs) (N := N) (s := .obj C (some p) fs) ms nt tb ⟨p, rfl, ob, (fun a ha u hu => (by rw [cut_own ha] at hu; cases hu)), (fun p' z => (by cases z; rfl))⟩ r
  refine ⟨_, M, M, _, Ext.cut ms nt tb, rs, ?_⟩
  have hn : us.length = n := by simpa using hn
  rw [hn]
  unfold defW at f
  cases q : m ((some (Sl.obj C (some p) fs) :: ds.map (fun d => some (.dat d))) ++ List.replicate (N.length - (n + 1)) none) with
  | bad =>
    rw [q] at f
    exact f.elim
  | ok d Γ =>
    rw [q] at f
    unfold outW at f
    dsimp only at f
    cases z : obj0 Γ with
    | none => rw [z] at f; exact f.elim
    | some y =>
      obtain ⟨C', q', fs'⟩ := y
      rw [z] at f
      dsimp only at f
      by_cases c : C' = C ∧ q' = some p
      · rw [if_pos c] at f
        obtain ⟨rfl, rfl⟩ := c
        have fin : ∀ v σ H1 M1, Ext T M (cutH H p fs) M1 H1 → Rs K mg T (cutH H p fs) M1 H1 Γ σ → Rp K mg M1 v d → Q v H1 := fun v σ H1 M1 e1 r1 rv => by
          obtain ⟨u, s1, p', s2, s3, s4, s5⟩ := r1.slt 0 _ (obj0_some z)
          have := s5 p rfl
          subst this
          exact f v H1 M1 e1 s3 s4 r1.tb rv
        exact ⟨fin, fun hd σ H1 M1 e1 r1 => fin .non σ H1 M1 e1 r1 (by subst hd; exact .non)⟩
      · rw [if_neg c] at f
        exact f.elim
/-- THE RULE for a method that writes -/
theorem def_okW {P : Program} {w : World} {base : Heap} {C : Str} {cl : Addr} {x q : Str} {params : Arguments} {body : List Stmt} {scope : Scope} {a : Addr} {fd : FuncData} {N ps : List Str} {k : Nat} {m : Env → SW} (n : Nat) (F : FunD K x q params body scope [] [] a fd) (S : FnScope N ps scope) (hn : ps.length = n + 1) (hg : Meth K cl x a)
    (hb : ∀ (kV doc pm : Value) (an : Option Addr) (cdv ct : Value) (us : List Value), us.length = ps.length → bindArgs (PySem.W.fnOf x q params body scope .none kV doc pm an cdv ct) ⟨us, []⟩ = pure (ps.zip us))
    (hbody : ∀ (cdv : Value) (A : Around) (outer : List PySem.Env) (s : Shared) (H : Hp) (E : XK), Room k (A.deeper (envOfC q scope s.heap.objs.size a cdv)) →
      PSsW (cxOf (L2N.CX P w) P w K mg base N q scope a cdv A outer s H E) T body m) : MtW P w K mg base T C cl (k + 1) x n (defW C (N.length - (n + 1)) m) :=
  ⟨a, fd, ps, hg, F.bindsN hb, F.ok S (fun vs H Q E h => h.1.trans hn.symm) fun cdv A outer s H vs Q E hr h => ⟨_, hbody cdv A outer s H E hr, body_ofW (E := E) h⟩⟩
/-! ### a call that writes -/
def Looks (H : Hp) (v : V) (s : Sl) (a : Addr) : Prop := Owns H v s a ∨ ∃ C fs p, s = .rob C fs ∧ v = .ref p ∧ ObOwn H p fs a
theorem FsOk.agree : ∀ {vs : List (Str × V)} {fs : Ob}, FsOk K mg M H vs fs → (∀ a, FsOwn vs fs a → H1 a = H a) → FsOk K mg M H1 vs fs
  | _, _, .nil, _ => .nil
  | _, _, .cons (f := f) h r, n => by
    refine .cons ?_ (FsOk.agree r fun a z => n a (.inr z))
    cases f with
    | dat d => exact h
    | own ds =>
      obtain ⟨b, us, h1, h2, h3, h4⟩ := h
      exact ⟨b, us, h1, by rw [n b (.inl h1)]; exact h2, h3, h4⟩
theorem ObAt.agree {p : Addr} {C : Str} {fs : Ob} (h : ObAt K mg M H p C fs) (n : ∀ a, ObOwn H p fs a → H1 a = H a) : ObAt K mg M H1 p C fs ∧ ∀ a, ObOwn H1 p fs a → ObOwn H p fs a := by
  obtain ⟨cl, dx, vs, h1, h2, h3, h4, h5⟩ := h
  have hp : H1 p = some (.ins cl dx vs) := by rw [n p (.inl rfl)]; exact h2
  refine ⟨⟨cl, dx, vs, h1, hp, h3, h4.agree fun a z => n a (.inr ⟨cl, dx, vs, h2, z⟩), h5⟩, fun a ha => ?_⟩
  rcases ha with rfl | ⟨cl', dx', vs', z1, z2⟩
  · exact .inl rfl
  · rw [hp] at z1
    cases z1
    exact .inr ⟨_, _, _, h2, z2⟩
theorem SlOk.agree {v : V} {s : Sl} (h : SlOk K mg H0 M H v s) (n : ∀ a, Looks H v s a → H1 a = H a) : SlOk K mg H0 M H1 v s ∧ ∀ a, Owns H1 v s a → Owns H v s a := by
  cases s with
  | dat d => exact ⟨h, fun _ z => z⟩
  | own ds =>
    obtain ⟨b, vs, h1, h2, h3⟩ := h
    exact ⟨⟨b, vs, h1, by rw [n b (.inl h1)]; exact h2, h3⟩, fun _ z => z⟩
  | dct ds =>
    obtain ⟨b, vs, h1, h2, h3⟩ := h
    exact ⟨⟨b, vs, h1, by rw [n b (.inl h1)]; exact h2, h3⟩, fun _ z => z⟩
  | dco kvs =>
    obtain ⟨b, h1, ⟨xs, k1, k2⟩, h3⟩ := h
    exact ⟨⟨b, h1, ⟨xs, by rw [n b (.inl h1)]; exact k1, k2⟩, h3⟩, fun _ z => z⟩
  | obj C q fs =>
    obtain ⟨p, h1, h2, h3, h4⟩ := h
    obtain ⟨q1, q2⟩ := h2.agree fun a ha => n a (.inl ⟨p, h1, ha⟩)
    refine ⟨⟨p, h1, q1, fun a ha => h3 a (q2 a ha), h4⟩, fun a ha => ?_⟩
    obtain ⟨p', e1, e2⟩ := ha
    rw [h1] at e1
    cases e1
    exact ⟨p, h1, q2 a e2⟩
  | rob C fs =>
    obtain ⟨p, h1, h2, h3⟩ := h
    obtain ⟨q1, q2⟩ := h2.agree fun a ha => n a (.inr ⟨C, fs, p, rfl, h1, ha⟩)
    exact ⟨⟨p, h1, q1, fun a ha => h3 a (q2 a ha)⟩, fun _ z => z⟩
theorem Owns.ntbl {v : V} {s : Sl} {a : Addr} (h : SlOk K mg H0 M H v s) (o : Owns H v s a) : ∃ u, H a = some u ∧ ∀ ps, u ≠ .tbl ps := by
  cases s with
  | dat d => exact o.elim
  | rob C fs => exact o.elim
  | own ds =>
    obtain ⟨b, vs, h1, h2, h3⟩ := h
    have o : v = .ref a := o
    rw [h1] at o
    cases o
    exact ⟨_, h2, fun _ z => by cases z⟩
  | dct ds =>
    obtain ⟨b, vs, h1, h2, h3⟩ := h
    have o : v = .ref a := o
    rw [h1] at o
    cases o
    exact ⟨_, h2, fun _ z => by cases z⟩
  | dco kvs =>
    obtain ⟨b, h1, ⟨xs, k1, k2, k3⟩, h3⟩ := h
    have o : v = .ref a := o
    rw [h1] at o
    cases o
    exact ⟨_, k1, fun _ z => by cases z⟩
  | obj C q fs =>
    obtain ⟨p, h1, h2, h3, _⟩ := h
    obtain ⟨p', o1, o2⟩ := o
    rw [h1] at o1
    cases o1
    obtain ⟨⟨o, q1, q2, _⟩, q3⟩ := h2.own_kept o2
    exact ⟨o, q1, fun ps z => by subst z; exact q2.elim⟩
theorem Ext.fresh' {a : Addr} (e : Ext T M0 H0 M H) (f : Fr H a) : Fr H0 a := fun u hu => by
  rcases kinds u with k | ⟨φ, rfl⟩ | k
  · obtain ⟨ps, rfl⟩ := f u (e.kp a u hu k)
    exact k.elim
  · obtain ⟨φ', z⟩ := e.ke' a φ hu
    obtain ⟨ps, z⟩ := f _ z
    cases z
  · exact k
/-- the object of slot i was changed by a call -/
theorem Rs.write (r : Rs K mg T H0 M H Γ σ) (e0 : Ext T M0 H0 M H) {i : Nat} {C : Str} {q : Option Addr} {p : Addr} {fs fs' : Ob} (hi : Γ[i]? = some (some (.obj C q fs))) (hs : σ[i]? = some (some (.ref p))) (e : Ext T M (cutH H p fs) M' H') (ob : ObAt K mg M' H' p C fs') (fr : ∀ a, ObOwn H' p fs' a → Fr (cutH H p fs) a) (tb : Tabs T H') :
    Ext T M0 H0 M' H' ∧ Rs K mg T H0 M' H' (Γ.set i (some (.obj C q fs'))) σ := by
  obtain ⟨v, k1, p', k2, k3, k4, k5⟩ := r.slt i _ hi
  rw [hs] at k1
  cases k1
  cases k2
  have cutf : ∀ a, Fr (cutH H p fs) a → Fr H0 a := fun a h => by
    by_cases z : ObOwn H p fs a
    · exact k4 a z
    · refine e0.fresh' fun u hu => h u ?_
      rw [cut_of z]
      exact hu
  have other : ∀ (j : Nat) t w, i ≠ j → Γ[j]? = some (some t) → σ[j]? = some (some w) → SlOk K mg H0 M (cutH H p fs) w t ∧ ∀ a, Owns (cutH H p fs) w t a → Owns H w t a := fun j t w hj q1 q2 => by
    obtain ⟨w', w1, w2⟩ := r.slt j t q1
    rw [q2] at w1
    cases w1
    refine w2.agree fun a ha => cut_of fun z => ?_
    rcases ha with ha | ⟨C', fs2, p2, rfl, rfl, ha⟩
    · exact hj (r.dj i j _ t _ w a hi q1 hs q2 ⟨p, rfl, z⟩ ha)
    · obtain ⟨p3, l1, l2, l3⟩ := w2
      cases l1
      exact (k4 a z).ne (l3 a ha) rfl
  refine ⟨⟨fun b o hb ho => ?_, fun b φ hb => ?_, fun _ => tb, e0.mm.trans e.mm, e.ms, e.nt, fun b o hb => ?_, fun b hb => ?_⟩, ⟨e.ms, e.nt, tb, by rw [List.length_set, r.len], fun j t hj => ?_, fun j k t u w x b q1 q2 q3 q4 o1 o2 => ?_⟩⟩
  · have h1 := e0.kp b o hb ho
    refine e.kp b o ?_ ho
    rw [cut_of fun z => ?_]
    · exact h1
    · obtain ⟨ps, z2⟩ := k4 b z o hb
      subst z2
      exact ho.elim
  · have nb : ¬ ObOwn H p fs b := fun z => by
      obtain ⟨ps, z2⟩ := k4 b z _ hb
      cases z2
    rcases e0.ke b φ hb with h1 | ⟨h1, φ1, h2⟩
    · rcases e.ke b φ (by rw [cut_of nb]; exact h1) with h3 | ⟨h3, h4⟩
      · exact .inl h3
      · rcases e0.nm b h3 with h5 | h5
        · exact .inr ⟨h5, h4⟩
        · exact absurd hb (h5 φ)
    · rcases e.ke b φ1 (by rw [cut_of nb]; exact h2) with h3 | ⟨h3, h4⟩
      · exact .inr ⟨h1, φ1, h3⟩
      · exact .inr ⟨h1, h4⟩
  · rcases e.nw b o hb with h1 | h1
    · exact e0.nw b o h1
    · exact .inr (cutf b h1)
  · rcases e.nm b hb with h1 | h1
    · exact e0.nm b h1
    · by_cases z : ObOwn H p fs b
      · refine .inr fun φ hφ => ?_
        obtain ⟨ps, z2⟩ := k4 b z _ hφ
        cases z2
      · rw [cut_of z] at h1
        refine .inr fun φ hφ => ?_
        obtain ⟨φ', h2⟩ := e0.ke' b φ hφ
        exact h1 φ' h2
  · rcases set_get hj with ⟨rfl, _, z⟩ | ⟨hj, hg⟩
    · cases z
      exact ⟨.ref p, hs, p, rfl, ob, fun a ha => cutf a (fr a ha), k5⟩
    · obtain ⟨w, w1, w2⟩ := r.slt j t hg
      exact ⟨w, w1, (other j t w hj hg w1).1.ext e⟩
  · have one : ∀ (k : Nat) u x, i ≠ k → Γ[k]? = some (some u) → σ[k]? = some (some x) → Owns H' (.ref p) (.obj C q fs') b → Owns H' x u b → False := fun k u x hk q2 q4 o1 o2 => by
      obtain ⟨p2, e1, e2⟩ := o1
      cases e1
      have f1 := fr b e2
      obtain ⟨l1, l2⟩ := other k u x hk q2 q4
      have o3 := o2.back e l1
      obtain ⟨y, y1, y2⟩ := o3.ntbl l1
      obtain ⟨ps, y3⟩ := f1 y y1
      exact y2 ps y3
    rcases set_get q1 with ⟨rfl, _, z⟩ | ⟨hj, q1⟩
    · cases z
      rw [hs] at q3
      cases q3
      rcases set_get q2 with ⟨rfl, _, z⟩ | ⟨hk, q2⟩
      · rfl
      · exact (one k u x hk q2 q4 o1 o2).elim
    · rcases set_get q2 with ⟨rfl, _, z⟩ | ⟨hk, q2⟩
      · cases z
        rw [hs] at q4
        cases q4
        exact (one j t w hj q1 q3 o2 o1).elim
      · obtain ⟨l1, l2⟩ := other j t w hj q1 q3
        obtain ⟨l3, l4⟩ := other k u x hk q2 q4
        exact r.dj j k t u w x b q1 q2 q3 q4 (l2 b (o1.back e l1)) (l4 b (o2.back e l3))
def objAt (Γ : Env) (i : Nat) : Option (Str × Option Addr × Ob) := match Γ[i]? with
  | some (some (.obj C q fs)) => some (C, q, fs)
  | _ => none
theorem objAt_some {i : Nat} {C : Str} {q : Option Addr} {fs : Ob} (h : objAt Γ i = some (C, q, fs)) : Γ[i]? = some (some (.obj C q fs)) := by
  unfold objAt at h
  cases z : Γ[i]? with
  | none => rw [z] at h; cases h
  | some o =>
    rw [z] at h
    cases o with
    | none => cases h
    | some s =>
      cases s with
      | obj C q fs => cases h; rfl
      | _ => cases h
open Classical in
/-- by the object's place, where it is known -/
noncomputable def WF.at (f : WF) (q : Option Addr) (fs : Ob) (ds : List D) : Out (D × Ob) := match q with
  | some p => f p fs ds
  | none => if ∀ p, f p fs ds = f 0 fs ds then f 0 fs ds else .bad
theorem WF.at_eq {f : WF} {q : Option Addr} {fs fs' : Ob} {ds : List D} {d : D} (h : f.at q fs ds = .ok (d, fs')) (p : Addr) (hp : ∀ p', q = some p' → p = p') : f p fs ds = .ok (d, fs') := by
  unfold WF.at at h
  cases q with
  | some p' => rw [hp p' rfl]; exact h
  | none =>
    dsimp only at h
    by_cases c : ∀ p, f p fs ds = f 0 fs ds
    · rw [if_pos c] at h
      rw [c p]
      exact h
    · rw [if_neg c] at h
      cases h
/-- x.m(..), whose object is changed; what it tells goes to k -/
noncomputable def sMW (C : Str) (i : Nat) (m : Str) (n : Nat) (f : WF) (ms : Env → Out (List D)) (k : D → Env → SO) : Env → SO := fun Γ => match objAt Γ i with
  | some (C', q, fs) => if C' = C ∧ (fs.lookup m).isNone = true then SO.ofA (ms Γ) fun ds => if ds.length = n then (match f.at q fs ds with
    | .ok (d, fs') => k d (Γ.set i (some (.obj C q fs')))
    | _ => .bad) else .bad else .bad
  | none => .bad
theorem tMeth_ofW {C : Str} {cl : Addr} {ns : List Str} {i n : Nat} {m : Str} {f : WF} {ms : Env → Out (List D)} {k : D → Env → SO} {Q : VK} {Dn : Ends} (c : ObC K mg C cl ns) (h : sOf K mg T E (sMW C i m n f ms k) Dn σ H) (hQ : ∀ d v Γ' M0 H0 M' H', Ext T M0 H0 M' H' → Rs K mg T H0 M' H' Γ' σ → Rp K mg M' v d → FinS K mg T M0 H0 Dn E (k d Γ') → Q v H') : tMeth cl m (spWo K mg T C n f) [] E (tVar i) (taOf K mg T E ms) σ H Q := by
  obtain ⟨Γ, M, M0, H0, e0, r, f0⟩ := h
  unfold sMW at f0
  cases q : objAt Γ i with
  | none => rw [q] at f0; exact f0.elim
  | some z =>
    obtain ⟨C', q0, fs⟩ := z
    rw [q] at f0
    dsimp only at f0
    by_cases e : C' = C ∧ (fs.lookup m).isNone = true
    · rw [if_pos e] at f0
      obtain ⟨rfl, e2⟩ := e
      have e2 := isNone_eq e2
      have hq := objAt_some q
      obtain ⟨v, s1, p, s2, ob, s4, s5⟩ := r.slt i _ hq
      subst s2
      have ob' := ob
      obtain ⟨cl', dx, vs, k1, k2, k3, k4, k5⟩ := ob
      rw [c.gl] at k1
      cases k1
      refine ⟨.ref p, s1, p, dx, vs, rfl, k2, (k4.look (f := m)).2 e2, Γ, M, H0, r, FinS.ofA e0 f0 fun ds us H2 M2 e3 e1 r1 f1 => ?_⟩
      have rs := r.ext e1
      by_cases hn : ds.length = n
      · rw [if_pos hn] at f1
        rw [List.append_nil]
        refine ⟨by rw [List.length_cons, r1.length, hn], rs.tb, M2, p, us, fs, ds, rfl, rs.ms, rs.nt, ob'.ext e1, r1, ?_⟩
        cases hf : f.at q0 fs ds with
        | ok y =>
          obtain ⟨d, fs'⟩ := y
          rw [hf] at f1
          rw [WF.at_eq hf p s5]
          intro v H' M' e4 ob2 fr tb2 rv
          obtain ⟨w1, w2⟩ := rs.write e3 hq s1 e4 ob2 fr tb2
          exact hQ d v _ M0 H0 M' H' w1 w2 rv f1
        | exc c => rw [hf] at f1; exact f1.elim
        | bad => rw [hf] at f1; exact f1.elim
      · rw [if_neg hn] at f1
        exact f1.elim
    · rw [if_neg e] at f0
      exact f0.elim
section
variable {C : Str} {cl : Addr} {ns : List Str} {x m : Str} {p apos pos spos : Pos} {pl : Sem Bool} {n k : Nat} {e : Expr} {es : List Expr} {ms : Env → Out (List D)}
def kDrop : D → Env → SO := fun _ Γ => .nx Γ
theorem s_methW {f : WF} (i : Nat) (c : ObC X.K X.mg C cl ns) (F : MtW X.prog X.w X.K X.mg X.base T C cl k m n f) (hr : Room k X.A) (hx : Passes (L2N.CX X.prog X.w) X E) (ha : PAm X T E (e :: es) ms) (hN : X.N[i]? = some x := by rfl) (hv : Vis X.env.scope x := by first | exact Or.inl rfl | exact Or.inr (Or.inl rfl) | exact Or.inr (Or.inr rfl)) (hd : (x == ("__debug__" : Str)) = false := by decide)
    (hcd : (x == ("__classdict__" : Str)) = false := by decide) (hst : starEach (e :: es) X.env = (false, eval e X.env) :: starEach es X.env := by rfl) (hpl : (backTo pos (starEach es X.env)).any (·.1) = false := by rfl)
    (ht : eval (.Call (.Attribute (.Name x p) m apos) (e :: es) [] pos) X.env = (do
      let ov ← eval (.Name x p) X.env
      standAt apos.atName
      let (f, first) ← holding [ov] (getMethod ov m pl)
      callWith pos f first (backTo pos (starEach (e :: es) X.env)) (backToKw pos (keywordEach [] X.env))) := by rfl) (hs : swapsWith (.Call (.Attribute (.Name x p) m apos) (e :: es) [] pos) none spos.line X.env = pure false := by rfl) :
    PSm X T E (.Expr (.Call (.Attribute (.Name x p) m apos) (e :: es) [] pos) spos) (sMW C i m n f ms kDrop) := by
  obtain ⟨a, fd, ps, h1, h2, h3⟩ := F
  exact weakS (ps_expr (pe_meth (pl := pl) (pe_var hN hv hd hcd) c.cls h1 h3 hr h2 .nil hx ha hst hpl ht) hs) fun Dn σ H h => tMeth_ofW c h fun d v Γ' M0 H0 M' H' e1 r1 rv f1 => f1 σ H' M' e1 r1
theorem s_methW0 {f : WF} (i : Nat) (c : ObC X.K X.mg C cl ns) (F : MtW X.prog X.w X.K X.mg X.base T C cl k m n f) (hr : Room k X.A) (hx : Passes (L2N.CX X.prog X.w) X E) (hN : X.N[i]? = some x := by rfl) (hv : Vis X.env.scope x := by first | exact Or.inl rfl | exact Or.inr (Or.inl rfl) | exact Or.inr (Or.inr rfl)) (hd : (x == ("__debug__" : Str)) = false := by decide)
    (hcd : (x == ("__classdict__" : Str)) = false := by decide)
    (ht : eval (.Call (.Attribute (.Name x p) m apos) [] [] pos) X.env = (do
      let ov ← eval (.Name x p) X.env
      standAt apos.atName
      let (f, first) ← holding [ov] (getMethod ov m pl)
      callWith pos f first (backTo pos (starEach [] X.env)) (backToKw pos (keywordEach [] X.env))) := by rfl) (hs : swapsWith (.Call (.Attribute (.Name x p) m apos) [] [] pos) none spos.line X.env = pure false := by rfl) :
    PSm X T E (.Expr (.Call (.Attribute (.Name x p) m apos) [] [] pos) spos) (sMW C i m n f mNil kDrop) := by
  obtain ⟨a, fd, ps, h1, h2, h3⟩ := F
  refine weakS (ps_expr (pe_meth0 (pl := pl) (pe_var hN hv hd hcd) c.cls h1 h3 hr h2 .nil hx ht) hs) fun Dn σ H h => ?_
  obtain ⟨v, s1, p, dx, fs, e1, e2, e3, Γ1, M1, H01, r1, f1⟩ := tMeth_ofW (ms := mNil) (Q := fun _ H' => Dn.nx σ H') c h fun d v Γ' M0 H0 M' H' e1 r1 rv f1 => f1 σ H' M' e1 r1
  exact ⟨v, s1, p, dx, fs, e1, e2, e3, f1 [] H M1 r1.ext0 .nil⟩
end
end FL
set_option Elab.async false
set_option linter.all false
set_option maxRecDepth 100000
set_option maxHeartbeats 4000000
/-! lists of one's own that expressions make -/
namespace FL
open PySem PySem.Spec PyProof.Rows L2 LamX
variable {X : Cx} {K : PySem.W.Frag} {mg : Str → Option Value} {T : Tb} {E : XK} {M M0 M1 M' H H0 H1 H' : Hp} {Γ : Env} {σ : L2.St}
def FinOw (K : PySem.W.Frag) (mg : Str → Option Value) (T : Tb) (M H : Hp) (Q : VK) (E : XK) : Out (List D) → Prop
  | .ok ds => ∀ a vs H' M', Ext T M H M' H' → H' a = some (.lst vs) → M' a = none → Fr H a → RpL K mg M' vs ds → Q (.ref a) H'
  | .exc c => ∀ C H' M', Ext T M H M' H' → mg c = some (.ref C) → E (.ref C) none H'
  | .bad => False
def oOf (K : PySem.W.Frag) (mg : Str → Option Value) (T : Tb) (E : XK) (m : Env → Out (List D)) : TE := fun σ H Q => ∃ Γ M H0, Rs K mg T H0 M H Γ σ ∧ FinOw K mg T M H Q E (m Γ)
abbrev PEo (X : Cx) (T : Tb) (E : XK) (e : Expr) (m : Env → Out (List D)) : Prop := PE X e (oOf X.K X.mg T E m)
theorem FinOw.up {Q : VK} {o : Out (List D)} (h : FinOw K mg T M H Q E o) (e : Ext T M H M1 H1) : FinOw K mg T M1 H1 Q E o := by
  cases o with
  | ok d => exact fun a vs H2 M2 e2 h1 h2 h3 r2 => h a vs H2 M2 (e.trans e2) h1 h2 (e.fresh' h3) r2
  | exc c => exact fun C H2 M2 e2 r2 => h C H2 M2 (e.trans e2) r2
  | bad => exact h
theorem FinC.bindO {Q : VK} {R : It → Hp → Prop} {o : Out (List D)} {f : List D → Out (List D)} (h : FinOw K mg T M H Q E (o.bind f))
    (k : ∀ ds J H1 M1, o = .ok ds → Ext T M H M1 H1 → WkC K mg T M1 H1 J ds → FinOw K mg T M1 H1 Q E (f ds) → R J H1) : FinC K mg T M H R E o := by
  cases o with
  | ok d => exact fun J H1 M1 e r => k d J H1 M1 rfl e r (FinOw.up h e)
  | exc c => exact h
  | bad => exact h
theorem FinA.bindO {Q : VK} {R : List V → Hp → Prop} {o : Out (List D)} {f : List D → Out (List D)} (h : FinOw K mg T M H Q E (o.bind f))
    (k : ∀ ds vs H1 M1, o = .ok ds → Ext T M H M1 H1 → RpL K mg M1 vs ds → FinOw K mg T M1 H1 Q E (f ds) → R vs H1) : FinA K mg T M H R E o := by
  cases o with
  | ok d => exact fun vs H1 M1 e r => k d vs H1 M1 rfl e r (FinOw.up h e)
  | exc c => exact h
  | bad => exact h
theorem Fin.bindO {Q Q' : VK} {o : Out D} {f : D → Out (List D)} (h : FinOw K mg T M H Q E (o.bind f))
    (k : ∀ d v H1 M1, o = .ok d → Ext T M H M1 H1 → Rp K mg M1 v d → FinOw K mg T M1 H1 Q E (f d) → Q' v H1) : Fin K mg T M H Q' E o := by
  cases o with
  | ok d => exact fun vs H1 M1 e r => k d vs H1 M1 rfl e r (FinOw.up h e)
  | exc c => exact h
  | bad => exact h
theorem none_of (ms : Same M H) {p : Addr} (hp : H p = none) : M p = none := by
  cases q : M p with
  | none => rfl
  | some u =>
    have z := ms p u q
    rw [hp] at z
    cases z
theorem FinOw.give {Q : VK} {ds : List D} {vs : List V} {p : Addr} (ms : Same M H) (nt : NoT T M H) (h : FinOw K mg T M H Q E (.ok ds)) (hp : H p = none) (r : RpL K mg M vs ds) : Q (.ref p) (upd H p (.lst vs)) :=
  h p vs _ M (Ext.grow ms nt (same_upd hp)) upd_same (none_of ms hp) (fun u hu => by rw [hp] at hu; cases hu) r
def limO (ds : List D) : Out (List D) := if ds.length ≤ LIM then .ok ds else .bad
theorem o_lst {es : List Expr} {pos : Pos} {ms : Env → Out (List D)} (h : PAm X T E es ms) : PEo X T E (.List es pos) (fun Γ => (ms Γ).bind limO) := by
  refine weakE (pe_lst h) fun σ H Q h => ?_
  obtain ⟨Γ, M, H0, rs, fn⟩ := h
  refine ⟨Γ, M, H0, rs, FinA.bindO fn fun d v H1 M1 _ e1 r1 f1 => ?_⟩
  unfold limO at f1
  have rs1 := rs.ext e1
  by_cases hl : d.length ≤ LIM
  · rw [if_pos hl] at f1
    exact ⟨by rw [r1.length]; exact lim_line hl, fun p hp => f1.give rs1.ms rs1.nt hp r1⟩
  · rw [if_neg hl] at f1
    exact f1.elim
/-- [..] * n -/
def repO (x y : D) : Out (List D) := match x, y with
  | .lst xs, .int k => if 0 ≤ k ∧ k ≤ 1000 ∧ xs.length * k.toNat ≤ LIM then .ok (List.replicate k.toNat xs).flatten else .bad
  | _, _ => .bad
def mRepO (a b : Env → Out D) : Env → Out (List D) := fun Γ => (a Γ).bind fun x => (b Γ).bind (repO x)
theorem o_rep {a b : Expr} {ma mb : Env → Out D} {pos : Pos} (ha : PEm X T E a ma) (hb : PEm X T E b mb) : PEo X T E (.BinOp a .Mult b pos) (mRepO ma mb) := by
  refine weakE (pe_op op_rep ha hb) fun σ H Q h => ?_
  obtain ⟨Γ, M, H0, rs, fn⟩ := h
  refine ⟨Γ, M, H0, rs, Fin.bindO fn fun d v H1 M1 _ e1 r1 f1 => ?_⟩
  refine ⟨Γ, M1, H0, rs.ext e1, Fin.bindO f1 fun d2 v2 H2 M2 _ e2 r2 f2 => ?_⟩
  have rs2 := (rs.ext e1).ext e2
  have r1 := r1.mono e2.mm
  cases r1 with
  | @lst l vs xs hl rl =>
    cases r2 with
    | int k =>
      have f2 : FinOw X.K X.mg T M2 H2 Q E (if 0 ≤ k ∧ k ≤ 1000 ∧ xs.length * k.toNat ≤ LIM then .ok (List.replicate k.toNat xs).flatten else .bad) := f2
      by_cases hc : 0 ≤ k ∧ k ≤ 1000 ∧ xs.length * k.toNat ≤ LIM
      · rw [if_pos hc] at f2
        refine ⟨l, k, vs, rfl, rfl, rs2.ms _ _ hl, by omega, by omega, by rw [rl.length]; exact lim_line hc.2.2, fun p hp => f2.give rs2.ms rs2.nt hp (replicate_rp rl)⟩
      · rw [if_neg hc] at f2
        exact f2.elim
    | _ => exact f2.elim
  | _ => cases r2 <;> exact f2.elim
def mCompO (vs : List Nat) (p : Pt) (it : Env → Out (List D)) (c : Env → Out Bool) (elt : Env → Out D) : Env → Out (List D) := fun Γ => (it Γ).bind fun ds => match compL p c elt (wipeE Γ vs) ds with
  | .ok ys => if ys.length ≤ LIM then .ok ys else .bad
  | _ => .bad
theorem tLc_ofO {vs : List Nat} {p : Pt} {it : Env → Out (List D)} {c : Env → Out Bool} {elt : Env → Out D} (hp : ∀ i ∈ p.ix, i ∈ vs) {Q : VK} (h : oOf K mg T E (mCompO vs p it c elt) σ H Q) :
    tLc (iOfC K mg T E it) (gP K p) (ttOf K mg T E0 c) (tOf K mg T E0 elt) vs σ H Q := by
  obtain ⟨Γ, M, H0, r, f⟩ := h
  refine ⟨Γ, M, H0, r, FinC.bindO f fun ds J H1 M1 _ e1 w f1 => ?_⟩
  intro Da hD
  cases qc : compL p c elt (wipeE Γ vs) ds with
  | exc x =>
    rw [qc] at f1
    exact f1.elim
  | bad =>
    rw [qc] at f1
    exact f1.elim
  | ok ys =>
    rw [qc] at f1
    by_cases hlen : ys.length ≤ LIM
    · have f1 : FinOw K mg T M1 H1 Q E (if ys.length ≤ LIM then Out.ok ys else .bad) := f1
      rw [if_pos hlen] at f1
      have rs1 := r.ext e1
      have mD : M1 Da = none := by
        cases q : M1 Da with
        | none => rfl
        | some u =>
          have z := rs1.ms _ _ q
          rw [hD] at z
          cases z
      have frD : Fr H1 Da := fun u hu => by rw [hD] at hu; cases hu
      -- H1, M1: the beginning; the new list is new
      refine ⟨fun i m H => m = ds.length - i ∧ i ≤ ds.length ∧ ∃ M acc done rest, Ext T M1 H1 M H ∧ H Da = some (.lst acc) ∧ M Da = none ∧ RpL K mg M acc done ∧ compL p c elt (wipeE Γ vs) (ds.drop i) = .ok rest ∧ done ++ rest = ys ∧ Tabs T H,
        ⟨ds.length, by simp, Nat.zero_le _, M1, [], [], ys, Ext.grow rs1.ms rs1.nt (same_upd hD), upd_same, mD, .nil, qc, rfl, rs1.tb.ext (same_upd hD)⟩, ?_⟩
      rintro i m H3 ⟨rfl, hi, M3, acc, done, rest, e3, hA, mA, rA, hc3, hy3, tb3⟩
      by_cases hlt : i < ds.length
      · have hd : ds.drop i = ds[i] :: ds.drop (i + 1) := List.drop_eq_getElem_cons hlt
        refine .inr ⟨w.goes i M3 H3 hlt e3, fun H => i + 1 ≤ ds.length ∧ ∃ M acc done rest, Ext T M1 H1 M H ∧ H Da = some (.lst acc) ∧ M Da = none ∧ RpL K mg M acc done ∧ compL p c elt (wipeE Γ vs) (ds.drop (i + 1)) = .ok rest ∧ done ++ rest = ys ∧ Tabs T H, fun H' ⟨hl, q⟩ => ⟨ds.length - (i + 1), by omega, rfl, hl, q⟩, fun x H4 y => ?_⟩
        obtain ⟨d, M4, hd4, e4, r4⟩ := w.yields i M3 H3 x H4 hlt e3 y
        have ed : d = ds[i] := by
          rw [List.getElem?_eq_getElem hlt] at hd4
          exact (Option.some.inj hd4).symm
        subst ed
        rw [hd] at hc3
        unfold compL at hc3
        have rw4 : Rs K mg T H0 M4 H4 (wipeE Γ vs) (L2.wipe σ vs) := ((rs1.wipe vs).ext (e3.trans e4))
        cases q : bindP p ds[i] (wipeE Γ vs) with
        | none =>
          rw [q] at hc3
          cases hc3
        | some Γ5 =>
          rw [q] at hc3
          refine gP_of rw4 r4 q fun us r5 => ?_
          refine ⟨by rw [wipe_pt hp, wipe_wipe], Γ5, M4, H0, r5, ?_⟩
          obtain ⟨mA4, hA4⟩ := e4.out mA hA True.intro
          cases q6 : c Γ5 with
          | exc x =>
            have hc3 : (match c Γ5 with
              | .ok true => (match elt Γ5 with
                | .ok y => (match compL p c elt (wipeE Γ vs) (ds.drop (i + 1)) with
                  | .ok ys => Out.ok (y :: ys)
                  | _ => .bad)
                | _ => .bad)
              | .ok false => compL p c elt (wipeE Γ vs) (ds.drop (i + 1))
              | _ => .bad) = .ok rest := hc3
            rw [q6] at hc3
            cases hc3
          | bad =>
            have hc3 : (match c Γ5 with
              | .ok true => (match elt Γ5 with
                | .ok y => (match compL p c elt (wipeE Γ vs) (ds.drop (i + 1)) with
                  | .ok ys => Out.ok (y :: ys)
                  | _ => .bad)
                | _ => .bad)
              | .ok false => compL p c elt (wipeE Γ vs) (ds.drop (i + 1))
              | _ => .bad) = .ok rest := hc3
            rw [q6] at hc3
            cases hc3
          | ok b =>
            have hc3 : (match c Γ5 with
              | .ok true => (match elt Γ5 with
                | .ok y => (match compL p c elt (wipeE Γ vs) (ds.drop (i + 1)) with
                  | .ok ys => Out.ok (y :: ys)
                  | _ => .bad)
                | _ => .bad)
              | .ok false => compL p c elt (wipeE Γ vs) (ds.drop (i + 1))
              | _ => .bad) = .ok rest := hc3
            rw [q6] at hc3
            intro H6 M6 e6
            obtain ⟨mA6, hA6⟩ := e6.out mA4 hA4 True.intro
            cases b with
            | false =>
              refine iteF ⟨hlt, M6, acc, done, rest, (e3.trans e4).trans e6, hA6, mA6, rA.mono (e4.mm.trans e6.mm), hc3, hy3, e6.tb (e4.tb tb3)⟩
            | true =>
              refine iteT ⟨Γ5, M6, H0, r5.ext e6, ?_⟩
              have hc3 : (match elt Γ5 with
                | .ok y => (match compL p c elt (wipeE Γ vs) (ds.drop (i + 1)) with
                  | .ok ys => Out.ok (y :: ys)
                  | _ => .bad)
                | _ => .bad) = .ok rest := hc3
              cases q7 : elt Γ5 with
              | exc x => rw [q7] at hc3; cases hc3
              | bad => rw [q7] at hc3; cases hc3
              | ok y =>
                rw [q7] at hc3
                have hc3 : (match compL p c elt (wipeE Γ vs) (ds.drop (i + 1)) with
                  | .ok ys => Out.ok (y :: ys)
                  | _ => .bad) = .ok rest := hc3
                cases q8 : compL p c elt (wipeE Γ vs) (ds.drop (i + 1)) with
                | exc x => rw [q8] at hc3; cases hc3
                | bad => rw [q8] at hc3; cases hc3
                | ok rest2 =>
                  rw [q8] at hc3
                  cases hc3
                  intro v H8 M8 e8 r8
                  obtain ⟨mA8, hA8⟩ := e8.out mA6 hA6 True.intro
                  refine ⟨acc, hA8, ?_, hlt, M8, acc ++ [v], done ++ [y], rest2, ?_, upd_same, mA8, ?_, rfl, by rw [List.append_assoc]; exact hy3, tabs_upd (e8.tb (e6.tb (e4.tb tb3))) hA8⟩
                  · rw [rA.length, sizeLine_eq]
                    have hz : (done ++ (y :: rest2)).length ≤ LIM := by rw [hy3]; exact hlen
                    rw [List.length_append, List.length_cons] at hz
                    unfold LIM at hz
                    omega
                  · exact (((e3.trans e4).trans e6).trans e8).mut mA8 hA8 frD
                  · exact (rA.mono ((e4.mm.trans e6.mm).trans e8.mm)).append (.cons r8 .nil)
      · have ei : i = ds.length := by omega
        subst ei
        rw [List.drop_length] at hc3
        cases hc3
        rw [List.append_nil] at hy3
        subst hy3
        refine .inl ⟨w.stops M3 H3 e3, ?_⟩
        exact f1 Da acc H3 M3 e3 hA mA frD rA
    · have f1 : FinOw K mg T M1 H1 Q E (if ys.length ≤ LIM then Out.ok ys else .bad) := f1
      rw [if_neg hlen] at f1
      exact f1.elim
section
variable {elt tg iter : Expr} {ifs : List Expr} {scope : Scope} {own : List (Str × Nat)} {pos : Pos} {p : Pt} {it : Env → Out (List D)} {c : Env → Out Bool} {me : Env → Out D}
theorem o_lc (own : List (Str × Nat)) (p : Pt) (hc : X.calm = true) (hN : X.N.Nodup) (hi : PICm X T E tg iter it) (ok : BlkOk X.N X.env.scope scope own)
    (hg : ∀ (s : Shared) (H : Hp) (C : Addr) (cl : List (Str × Addr)) (fp : List Addr), PG (Blk X scope s H C cl fp) tg (gP X.K p)) (ht : ∀ (s : Shared) (H : Hp) (C : Addr) (cl : List (Str × Addr)) (fp : List Addr), PTsm (Blk X scope s H C cl fp) T E0 ifs c)
    (he : ∀ (s : Shared) (H : Hp) (C : Addr) (cl : List (Str × Addr)) (fp : List Addr), PEm (Blk X scope s H C cl fp) T E0 elt me) (hp : ∀ i ∈ p.ix, i ∈ own.map (·.2) := by decide) (hs : ∀ x, foldedSetIterable iter X.env x = pure x := by intro _; rfl) :
    PEo X T E (.ListComp elt [⟨tg, iter, ifs, 0⟩] scope pos) (mCompO (own.map (·.2)) p it c me) :=
  weakE (pe_lc hc hN hi ok hg ht he hs) fun _ _ _ h => tLc_ofO hp h
end
/-- name = a list of one's own -/
def sOwnE (i : Nat) (m : Env → Out (List D)) : Env → SO := fun Γ => SO.ofA (m Γ) fun ds => .nx (Γ.set i (some (.own ds)))
theorem Rs.putOwn (r : Rs K mg T H0 M H Γ σ) (e0 : Ext T M0 H0 M H) (i : Nat) {a : Addr} {vs : List V} {ds : List D} (e : Ext T M H M' H') (h1 : H' a = some (.lst vs)) (h2 : M' a = none) (h3 : Fr H a) (h4 : RpL K mg M' vs ds) : Rs K mg T H0 M' H' (Γ.set i (some (.own ds))) (σ.set i (some (.ref a))) :=
  (r.ext e).put i (s := .own ds) ⟨a, vs, rfl, h1, h2, e0.fresh' h3, h4⟩ fun j t w b hj q1 q2 o1 o2 => by
    have o1 : V.ref a = .ref b := o1
    cases o1
    obtain ⟨w', w1, w2⟩ := r.slt j t q1
    rw [q2] at w1
    cases w1
    obtain ⟨u, u1, u2⟩ := (o2.back e w2).ntbl w2
    obtain ⟨ps, u3⟩ := h3 u u1
    exact u2 ps u3
theorem FinOw.ofA {Dn : Ends} {Q : VK} {o : Out (List D)} {f : List D → SO} (e0 : Ext T M0 H0 M H) (h : FinS K mg T M0 H0 Dn E (SO.ofA o f))
    (k : ∀ ds a vs H1 M1, Ext T M0 H0 M1 H1 → Ext T M H M1 H1 → H1 a = some (.lst vs) → M1 a = none → Fr H a → RpL K mg M1 vs ds → FinS K mg T M0 H0 Dn E (f ds) → Q (.ref a) H1) : FinOw K mg T M H Q E o := by
  cases o with
  | ok d => exact fun a vs H1 M1 e h1 h2 h3 r => k d a vs H1 M1 (e0.trans e) e h1 h2 h3 r h
  | exc c => exact fun C H' M' e q => h C H' M' (e0.trans e) q
  | bad => exact h
theorem s_ownE {m : Env → Out (List D)} {e : Expr} {pos pos' : Pos} (i : Nat) {x : Str} (hN : X.N.Nodup) (h : PEo X T E e m) (hi : X.N[i]? = some x := by rfl) (hx : Loc X.env.scope x := by first | exact Or.inl rfl | exact Or.inr rfl) (hs : swapsWith e (some (.Name x pos')) pos.line X.env = pure false := by rfl)
    (hf : X.fn x = true ∨ X.env.scope.names.lookup x = some .local := by first | exact .inl rfl | exact .inr rfl) : PSm X T E (.Assign [.Name x pos'] e pos) (sOwnE i m) :=
  weakS (ps_set hN hi hx h hs hf) fun Dn σ H h => by
    obtain ⟨Γ, M, M0, H0, e, r, f⟩ := h
    exact ⟨Γ, M, H0, r, FinOw.ofA e f fun ds a vs H1 M1 e1 e2 h1 h2 h3 rv f1 => f1 _ H1 M1 e1 (r.putOwn e i e2 h1 h2 h3 rv)⟩
/-- x[b] = e, a list of one's own -/
def sOSet (i : Nat) (mb me : Env → Out D) : Env → SO := fun Γ => match ownAt Γ i with
  | none => .bad
  | some ds => SO.ofO (me Γ) fun d => SO.ofO (mb Γ) fun y => match y with
    | .int k => (match ixN ds.length k with
      | some j => .nx (Γ.set i (some (.own (ds.set j d))))
      | none => .bad)
    | _ => .bad
theorem s_oset {mb me : Env → Out D} {b e : Expr} {x : Str} {pos pos' tpos : Pos} (i : Nat) (hb : PEm X T E b mb) (he : PEm X T E e me) (hN : X.N[i]? = some x := by rfl) (hv : Vis X.env.scope x := by first | exact Or.inl rfl | exact Or.inr (Or.inl rfl) | exact Or.inr (Or.inr rfl)) (hd : (x == ("__debug__" : Str)) = false := by decide)
    (hcd : (x == ("__classdict__" : Str)) = false := by decide) (ha : ∀ v, assign (.Subscript (.Name x pos') b tpos) X.env v = (do
      let ov ← holding [v] (eval (.Name x pos') X.env)
      let iv ← holding [v, ov] (eval b X.env)
      standAt tpos
      holding [v, ov, iv] (setItem ov iv v)
      release [v, ov, iv] []) := by intro _; rfl) (hs : swapsWithSole [.Subscript (.Name x pos') b tpos] e pos.line X.env = pure false := by rfl) (hw : swappedStores [.Subscript (.Name x pos') b tpos] e X.env = pure none := by rfl)
    (h1 : (assignEach [.Subscript (.Name x pos') b tpos] X.env).map (·.2) = [assign (.Subscript (.Name x pos') b tpos) X.env] := by rfl) : PSm X T E (.Assign [.Subscript (.Name x pos') b tpos] e pos) (sOSet i mb me) :=
  weakS (ps_asg he (pg_sub (pe_var hN hv hd hcd) hb set_list ha) hs hw h1) fun Dn σ H h => by
    obtain ⟨Γ, M, M0, H0, e, r, f⟩ := h
    unfold sOSet at f
    cases q : ownAt Γ i with
    | none => rw [q] at f; exact f.elim
    | some ds =>
      rw [q] at f
      have hq := ownAt_some q
      refine ⟨Γ, M, H0, r, FinS.ofO e f fun d v H1 M1 e1 e2 r1 f1 => ?_⟩
      have ra := r.ext e2
      obtain ⟨a, vs, k1, k2, k3, k4, k5⟩ := ra.own i ds hq
      refine ⟨.ref a, k1, Γ, M1, H0, ra, FinS.ofO e1 f1 fun y u H2 M2 e3 e4 r3 f2 => ?_⟩
      have rb := ra.ext e4
      obtain ⟨a', vs', l1, l2, l3, l4, l5⟩ := rb.own i ds hq
      rw [k1] at l1
      cases l1
      cases r3 with
      | int k =>
        dsimp only at f2
        cases hj : ixN ds.length k with
        | none => rw [hj] at f2; exact f2.elim
        | some j =>
          rw [hj] at f2
          refine ⟨a, vs', k, j, rfl, rfl, l2, by rw [l5.length]; exact hj, f2 σ _ _ (e3.mut l3 l2 l4) (rb.mut hq k1 l2 l3 l4 (l5.set (r1.mono e4.mm) j))⟩
      | _ => exact f2.elim
end FL
set_option Elab.async false
set_option linter.all false
set_option maxRecDepth 100000
set_option maxHeartbeats 4000000
/-! attributes written; objects made -/
namespace FL
open PySem PySem.Spec PyProof.Rows L2 LamX
variable {X : Cx} {K : PySem.W.Frag} {mg : Str → Option Value} {T : Tb} {E : XK} {M M0 M1 M' H H0 H1 H' : Hp} {Γ : Env} {σ : L2.St}
def putFl (f : Str) (u : Fl) : Ob → Ob
  | [] => [(f, u)]
  | (g, x) :: r => if g = f then (g, u) :: r else (g, x) :: putFl f u r
theorem FsOk.put {f : Str} {v : V} {u : Fl} (h : FlOk K mg M H v u) : ∀ {vs : List (Str × V)} {fs : Ob}, FsOk K mg M H vs fs → FsOk K mg M H (putF f v vs) (putFl f u fs)
  | _, _, .nil => .cons h .nil
  | _, _, .cons (x := y) h1 r => by
    unfold putF putFl
    by_cases e : y = f
    · rw [if_pos e, if_pos e]
      exact .cons h r
    · rw [if_neg e, if_neg e]
      exact .cons h1 (FsOk.put h r)
theorem FsOwn.put {f : Str} {v : V} {u : Fl} {a : Addr} : ∀ {vs : List (Str × V)} {fs : Ob}, FsOk K mg M H vs fs → FsOwn (putF f v vs) (putFl f u fs) a → FlOwn v u a ∨ FsOwn vs fs a
  | _, _, .nil, h => h.imp id fun z => z.elim
  | _, _, .cons (x := y) h1 r, h => by
    unfold putF putFl at h
    by_cases e : y = f
    · rw [if_pos e, if_pos e] at h
      exact h.imp id fun z => .inr z
    · rw [if_neg e, if_neg e] at h
      rcases h with h | h
      · exact .inr (.inl h)
      · exact (FsOwn.put r h).imp id fun z => .inr z
theorem FsNd.put {f : Str} {v : V} {u : Fl} (n : ∀ {vs : List (Str × V)} {fs : Ob}, FsOk K mg M H vs fs → True) : ∀ {vs : List (Str × V)} {fs : Ob}, FsOk K mg M H vs fs → FsNd vs fs → (∀ a, FlOwn v u a → ¬ FsOwn vs fs a) → FsNd (putF f v vs) (putFl f u fs)
  | _, _, .nil, _, _ => ⟨fun _ _ z => z, True.intro⟩
  | _, _, .cons (x := y) h1 r, h, k => by
    unfold putF putFl
    by_cases e : y = f
    · rw [if_pos e, if_pos e]
      exact ⟨fun a ha z => k a ha (.inr z), h.2⟩
    · rw [if_neg e, if_neg e]
      refine ⟨fun a ha z => ?_, FsNd.put n r h.2 fun a ha z => k a ha (.inr z)⟩
      rcases FsOwn.put r z with z | z
      · exact k a z (.inl ha)
      · exact h.1 a ha z
/-- the list of an attribute, changed in its place -/
theorem FsOk.upd {f : Str} {ds : List D} : ∀ {vs : List (Str × V)} {fs : Ob}, FsOk K mg M H vs fs → FsNd vs fs → fs.lookup f = some (.own ds) → ∃ a us, vs.lookup f = some (.ref a) ∧ H a = some (.lst us) ∧ M a = none ∧ RpL K mg M us ds ∧ FsOwn vs fs a ∧
    ∀ ws es, RpL K mg M ws es → FsOk K mg M (L2.upd H a (.lst ws)) vs (putFl f (.own es) fs) ∧ FsNd vs (putFl f (.own es) fs) ∧ ∀ b, FsOwn vs (putFl f (.own es) fs) b → FsOwn vs fs b
  | _, _, .nil, _, h => by cases h
  | _, _, .cons (x := y) (v := v) (f := g) (vs := vs) (fs := fs) h1 r, nd, h => by
    rw [List.lookup_cons] at h
    by_cases e : f = y
    · subst e
      rw [beq_self_eq_true] at h
      cases h
      obtain ⟨a, us, k1, k2, k3, k4⟩ := h1
      subst k1
      refine ⟨a, us, by rw [List.lookup_cons, beq_self_eq_true], k2, k3, k4, .inl rfl, fun ws es hw => ?_⟩
      have ep : putFl f (.own es) ((f, Fl.own ds) :: fs) = (f, .own es) :: fs := by simp [putFl]
      rw [ep]
      exact ⟨.cons ⟨a, ws, rfl, upd_same, k3, hw⟩ (r.frame (nd.1 a rfl)), ⟨nd.1, nd.2⟩, fun b hb => hb⟩
    · rw [beq_false_of_ne e] at h
      obtain ⟨a, us, k1, k2, k3, k4, k5, k6⟩ := FsOk.upd r nd.2 h
      refine ⟨a, us, by rw [List.lookup_cons, beq_false_of_ne e]; exact k1, k2, k3, k4, .inr k5, fun ws es hw => ?_⟩
      have ep : putFl f (.own es) ((y, g) :: fs) = (y, g) :: putFl f (.own es) fs := by simp [putFl, Ne.symm e]
      rw [ep]
      obtain ⟨l1, l2, l3⟩ := k6 ws es hw
      refine ⟨.cons ?_ l1, ⟨fun b hb z => nd.1 b hb (l3 b z), l2⟩, fun b hb => hb.imp id fun z => l3 b z⟩
      cases g with
      | dat d => exact h1
      | own ds' =>
        obtain ⟨b, us', m1, m2, m3, m4⟩ := h1
        refine ⟨b, us', m1, ?_, m3, m4⟩
        rw [upd_ne (fun z => nd.1 b m1 (by rw [z]; exact k5))]
        exact m2
theorem ob_step {p : Addr} {C : Str} {fs : Ob} (e : Ext T M H M1 H1) (ob : ObAt K mg M H p C fs) (tb : Tabs T H1) (ag : ∀ b o, ¬ ObOwn H p fs b → H1 b = some o → H' b = some o) : Ext T M (cutH H p fs) M1 H' ∧ Tabs T H' := by
  have nk : ∀ b, ObOwn H p fs b → (∃ o, H1 b = some o ∧ (∀ φ, o ≠ .ext φ) ∧ (∀ xs, o ≠ .tup xs) ∧ (∀ u v, o ≠ .frz u v) ∧ ∀ ps, o ≠ .tbl ps) ∧ M1 b = none := fun b hb => by
    obtain ⟨⟨o, q1, q2, q3, q4, q5⟩, q6⟩ := ob.own_kept hb
    obtain ⟨l1, l2⟩ := e.out q6 q1 q2
    exact ⟨⟨o, l2, q3, q4, q5, fun ps z => by subst z; exact q2.elim⟩, l1⟩
  have tb' : Tabs T H' := fun x hx => by
    obtain ⟨ps, h1, h2, h3⟩ := tb x hx
    refine ⟨ps, ag _ _ (fun z => ?_) h1, h2, fun pos cv hc => ?_⟩
    · obtain ⟨⟨o, q1, q2, q3, q4, q5⟩, _⟩ := nk _ z
      rw [h1] at q1
      cases q1
      exact q5 ps rfl
    · obtain ⟨c, e1, hc⟩ := h3 pos cv hc
      refine ⟨c, e1, ag _ _ (fun z => ?_) hc⟩
      obtain ⟨⟨o, q1, q2, q3, q4, q5⟩, _⟩ := nk _ z
      rw [hc] at q1
      cases q1
      exact q2 _ rfl
  refine ⟨⟨fun b o hb ho => ?_, fun b φ hb => ?_, fun _ => tb', e.mm, fun b o hb => ?_, ⟨e.nt.kd, e.nt.pl.of (fun b xs q => ?_) fun b φ q => ag _ _ (fun z => ?_) q⟩, fun b o hb => ?_, fun b hb => ?_⟩, tb'⟩
  · obtain ⟨h1, h2⟩ := cut_some hb
    exact ag b o h1 (e.kp b o h2 ho)
  · obtain ⟨h1, h2⟩ := cut_some hb
    rcases e.ke b φ h2 with q | ⟨q1, φ', q2⟩
    · exact .inl (ag _ _ h1 q)
    · exact .inr ⟨q1, φ', ag _ _ h1 q2⟩
  · refine ag b o (fun z => ?_) (e.ms b o hb)
    rw [(nk b z).2] at hb
    cases hb
  · rcases q with (q | ⟨o, q⟩) | q
    · exact .inl (.inl (ag _ _ (fun z => by
        obtain ⟨⟨o, q1, q2, q3, q4, q5⟩, _⟩ := nk _ z
        rw [q] at q1
        cases q1
        exact q3 _ rfl) q))
    · exact .inl (.inr ⟨o, ag _ _ (fun z => by
        obtain ⟨⟨o, q1, q2, q3, q4, q5⟩, _⟩ := nk _ z
        rw [q] at q1
        cases q1
        exact q4 _ _ rfl) q⟩)
    · exact .inr q
  · obtain ⟨⟨o, q1, q2, q3, q4, q5⟩, _⟩ := nk _ z
    rw [q] at q1
    cases q1
    exact q2 _ rfl
  · rcases e.nw b o hb with q | q
    · exact .inl q
    · exact .inr fun u hu => q u (cut_some hu).2
  · rcases e.nm b hb with q | q
    · exact .inl q
    · exact .inr fun φ hφ => q φ (cut_some hφ).2
theorem Rs.wr (r : Rs K mg T H0 M H Γ σ) (e0 : Ext T M0 H0 M H) {i : Nat} {C : Str} {q : Option Addr} {p : Addr} {fs fs' : Ob} (hi : Γ[i]? = some (some (.obj C q fs))) (hs : σ[i]? = some (some (.ref p))) (e : Ext T M H M1 H1) (ag : ∀ b o, ¬ ObOwn H p fs b → H1 b = some o → H' b = some o) (ob' : ObAt K mg M1 H' p C fs')
    (own' : ∀ a, ObOwn H' p fs' a → ObOwn H p fs a ∨ Fr H a) : Ext T M0 H0 M1 H' ∧ Rs K mg T H0 M1 H' (Γ.set i (some (.obj C q fs'))) σ := by
  obtain ⟨v, k1, p', k2, k3, k4, k5⟩ := r.slt i _ hi
  rw [hs] at k1
  cases k1
  cases k2
  obtain ⟨w1, w2⟩ := ob_step e k3 (e.tb r.tb) ag
  refine r.write e0 hi hs w1 ob' (fun a ha => ?_) w2
  rcases own' a ha with z | z
  · intro u hu
    rw [cut_own z] at hu
    cases hu
  · exact fun u hu => z u (cut_some hu).2
theorem Rs.objp (r : Rs K mg T H0 M H Γ σ) {i : Nat} {C : Str} {q : Option Addr} {fs : Ob} (h : objAt Γ i = some (C, q, fs)) : ∃ p, Γ[i]? = some (some (.obj C q fs)) ∧ σ[i]? = some (some (.ref p)) ∧ ObAt K mg M H p C fs ∧ ∀ a, ObOwn H p fs a → Fr H0 a := by
  have hq := objAt_some h
  obtain ⟨v, s1, p, s2, s3, s4, s5⟩ := r.slt i _ hq
  subst s2
  exact ⟨p, hq, s1, s3, s4⟩
/-! ### x.f = e -/
def sSetF (C : Str) (i : Nat) (f : Str) (m : Env → Out D) : Env → SO := fun Γ => match objAt Γ i with
  | some (C', q, fs) => if C' = C ∧ fs.length < 1000 then SO.ofO (m Γ) fun d => .nx (Γ.set i (some (.obj C q (putFl f (.dat d) fs)))) else .bad
  | none => .bad
section
variable {C : Str} {cl : Addr} {ns : List Str} {x f : Str} {p pos tpos : Pos} {e : Expr}
theorem s_setF {m : Env → Out D} (i : Nat) (c : ObC X.K X.mg C cl ns) (he : PEm X T E e m) (hf : f ∈ ns := by decide) (hN : X.N[i]? = some x := by rfl) (hv : Vis X.env.scope x := by first | exact Or.inl rfl | exact Or.inr (Or.inl rfl) | exact Or.inr (Or.inr rfl)) (hd : (x == ("__debug__" : Str)) = false := by decide)
    (hcd : (x == ("__classdict__" : Str)) = false := by decide) (hs : swapsWith e (some (.Attribute (.Name x p) f tpos)) pos.line X.env = pure false := by rfl) : PSm X T E (.Assign [.Attribute (.Name x p) f tpos] e pos) (sSetF C i f m) :=
  weakS (ps_fld (pe_var hN hv hd hcd) he hs) fun Dn σ H h => by
    obtain ⟨Γ, M, M0, H0, e0, r, f0⟩ := h
    unfold sSetF at f0
    cases q : objAt Γ i with
    | none => rw [q] at f0; exact f0.elim
    | some z =>
      obtain ⟨C', q0, fs⟩ := z
      rw [q] at f0
      dsimp only at f0
      by_cases hc : C' = C ∧ fs.length < 1000
      · rw [if_pos hc] at f0
        obtain ⟨rfl, hlen⟩ := hc
        obtain ⟨p, g1, g2, g3, g4⟩ := r.objp q
        refine ⟨Γ, M, H0, r, FinS.ofO e0 f0 fun d v H1 M1 e1 e2 r1 f1 => ?_⟩
        obtain ⟨cl', dx, vs, k1, k2, k3, k4, k5⟩ := g3.ext e2
        rw [c.gl] at k1
        cases k1
        have nop : ¬ FsOwn vs fs p := fun z => by
          obtain ⟨⟨us, h1⟩, _⟩ := k4.own_lst z
          rw [k2] at h1
          cases h1
        refine ⟨.ref p, g2, p, cl, dx, vs, rfl, k2, c.cls, c.na f hf, by rw [k4.len]; exact hlen, ?_⟩
        have ow : ∀ a, ObOwn (L2.upd H1 p (.ins cl dx (putF f v vs))) p (putFl f (.dat d) fs) a → ObOwn H p fs a ∨ Fr H a := fun a ha => by
          rcases ha with rfl | ⟨cl', dx', vs', z1, z2⟩
          · exact .inl (.inl rfl)
          · rw [upd_same] at z1
            cases z1
            rcases FsOwn.put k4 z2 with z | z
            · exact z.elim
            · exact .inl (ObOwn.back e2 g3 (.inr ⟨_, _, _, k2, z⟩))
        obtain ⟨w1, w2⟩ := r.wr (H' := L2.upd H1 p (.ins cl dx (putF f v vs))) (fs' := putFl f (.dat d) fs) e0 g1 g2 e2 (fun b o hb ho => by rw [upd_ne (fun z => hb (.inl z))]; exact ho)
          ⟨cl, dx, putF f v vs, c.gl, upd_same, k3, FsOk.put (u := .dat d) r1 (k4.frame nop), FsNd.put (fun _ => True.intro) k4 k5 (fun _ z => z.elim)⟩ ow
        exact f1 σ _ _ w1 w2
      · rw [if_neg hc] at f0
        exact f0.elim
def sSetFO (C : Str) (i : Nat) (f : Str) (m : Env → Out (List D)) : Env → SO := fun Γ => match objAt Γ i with
  | some (C', q, fs) => if C' = C ∧ fs.length < 1000 then SO.ofA (m Γ) fun ds => .nx (Γ.set i (some (.obj C q (putFl f (.own ds) fs)))) else .bad
  | none => .bad
theorem s_setFO {m : Env → Out (List D)} (i : Nat) (c : ObC X.K X.mg C cl ns) (he : PEo X T E e m) (hf : f ∈ ns := by decide) (hN : X.N[i]? = some x := by rfl) (hv : Vis X.env.scope x := by first | exact Or.inl rfl | exact Or.inr (Or.inl rfl) | exact Or.inr (Or.inr rfl)) (hd : (x == ("__debug__" : Str)) = false := by decide)
    (hcd : (x == ("__classdict__" : Str)) = false := by decide) (hs : swapsWith e (some (.Attribute (.Name x p) f tpos)) pos.line X.env = pure false := by rfl) : PSm X T E (.Assign [.Attribute (.Name x p) f tpos] e pos) (sSetFO C i f m) :=
  weakS (ps_fld (pe_var hN hv hd hcd) he hs) fun Dn σ H h => by
    obtain ⟨Γ, M, M0, H0, e0, r, f0⟩ := h
    unfold sSetFO at f0
    cases q : objAt Γ i with
    | none => rw [q] at f0; exact f0.elim
    | some z =>
      obtain ⟨C', q0, fs⟩ := z
      rw [q] at f0
      dsimp only at f0
      by_cases hc : C' = C ∧ fs.length < 1000
      · rw [if_pos hc] at f0
        obtain ⟨rfl, hlen⟩ := hc
        obtain ⟨p, g1, g2, g3, g4⟩ := r.objp q
        refine ⟨Γ, M, H0, r, FinOw.ofA e0 f0 fun ds a us H1 M1 e1 e2 h1 h2 h3 r1 f1 => ?_⟩
        obtain ⟨cl', dx, vs, k1, k2, k3, k4, k5⟩ := g3.ext e2
        rw [c.gl] at k1
        cases k1
        have nop : ¬ FsOwn vs fs p := fun z => by
          obtain ⟨⟨us, h1⟩, _⟩ := k4.own_lst z
          rw [k2] at h1
          cases h1
        have noa : ¬ FsOwn vs fs a := fun z => by
          obtain ⟨⟨o, l1, l2, _⟩, _⟩ := g3.own_kept (ObOwn.back e2 g3 (.inr ⟨_, _, _, k2, z⟩))
          obtain ⟨ps, rfl⟩ := h3 o l1
          exact l2.elim
        have pa : a ≠ p := ne_of h1 k2 (fun z => by cases z)
        refine ⟨.ref p, g2, p, cl, dx, vs, rfl, k2, c.cls, c.na f hf, by rw [k4.len]; exact hlen, ?_⟩
        have ow : ∀ b, ObOwn (L2.upd H1 p (.ins cl dx (putF f (.ref a) vs))) p (putFl f (.own ds) fs) b → ObOwn H p fs b ∨ Fr H b := fun b ha => by
          rcases ha with rfl | ⟨cl', dx', vs', z1, z2⟩
          · exact .inl (.inl rfl)
          · rw [upd_same] at z1
            cases z1
            rcases FsOwn.put k4 z2 with z | z
            · have z : V.ref a = .ref b := z
              cases z
              exact .inr h3
            · exact .inl (ObOwn.back e2 g3 (.inr ⟨_, _, _, k2, z⟩))
        obtain ⟨w1, w2⟩ := r.wr (H' := L2.upd H1 p (.ins cl dx (putF f (.ref a) vs))) (fs' := putFl f (.own ds) fs) e0 g1 g2 e2 (fun b o hb ho => by rw [upd_ne (fun z => hb (.inl z))]; exact ho)
          ⟨cl, dx, putF f (.ref a) vs, c.gl, upd_same, k3, FsOk.put (u := .own ds) ⟨a, us, rfl, by rw [upd_ne pa]; exact h1, h2, r1⟩ (k4.frame nop), FsNd.put (fun _ => True.intro) k4 k5 (fun b z => by
            have z : V.ref a = .ref b := z
            cases z
            exact noa)⟩ ow
        exact f1 σ _ _ w1 w2
      · rw [if_neg hc] at f0
        exact f0.elim
end
/-- the list of x's attribute f is changed in its place -/
theorem Rs.wrL (r : Rs K mg T H0 M H Γ σ) (e0 : Ext T M0 H0 M H) {i : Nat} {C : Str} {q : Option Addr} {p : Addr} {fs : Ob} {f : Str} {ds : List D} (hi : Γ[i]? = some (some (.obj C q fs))) (hs : σ[i]? = some (some (.ref p))) (hl : fs.lookup f = some (.own ds)) (e : Ext T M H M1 H1) :
    ∃ cl dx vs a us, mg C = some (.ref cl) ∧ H1 p = some (.ins cl dx vs) ∧ vs.lookup f = some (.ref a) ∧ H1 a = some (.lst us) ∧ RpL K mg M1 us ds ∧ ∀ ws es, RpL K mg M1 ws es → Ext T M0 H0 M1 (L2.upd H1 a (.lst ws)) ∧ Rs K mg T H0 M1 (L2.upd H1 a (.lst ws)) (Γ.set i (some (.obj C q (putFl f (.own es) fs)))) σ := by
  obtain ⟨v, k1, p', k2, k3, k4, k5⟩ := r.slt i _ hi
  rw [hs] at k1
  cases k1
  cases k2
  have ob := k3.ext e
  have ob1 := ob
  obtain ⟨cl, dx, vs, l1, l2, l3, l4, l5⟩ := ob
  obtain ⟨a, us, m1, m2, m3, m4, m5, m6⟩ := l4.upd l5 hl
  have pa : p ≠ a := fun z => by
    subst z
    rw [l2] at m2
    cases m2
  have ow : ObOwn H p fs a := ObOwn.back e k3 (.inr ⟨_, _, _, l2, m5⟩)
  refine ⟨cl, dx, vs, a, us, l1, l2, m1, m2, m4, fun ws es hw => ?_⟩
  obtain ⟨n1, n2, n3⟩ := m6 ws es hw
  have hp' : L2.upd H1 a (.lst ws) p = some (.ins cl dx vs) := by rw [upd_ne pa]; exact l2
  refine r.wr e0 hi hs e (fun b o hb ho => by rw [upd_ne (fun z => hb (by rw [z]; exact ow))]; exact ho) ⟨cl, dx, vs, l1, hp', l3, n1, n2⟩ fun b hb => ?_
  rcases hb with rfl | ⟨cl', dx', vs', z1, z2⟩
  · exact .inl (.inl rfl)
  · rw [hp'] at z1
    cases z1
    exact .inl (ObOwn.back e k3 (.inr ⟨_, _, _, l2, n3 b z2⟩))
/-- x.f.append(e) -/
def sFApp (C : Str) (i : Nat) (f : Str) (m : Env → Out D) : Env → SO := fun Γ => match objAt Γ i with
  | some (C', q, fs) => (match fs.lookup f with
    | some (.own ds) => if C' = C ∧ ds.length < LIM then SO.ofO (m Γ) fun d => .nx (Γ.set i (some (.obj C q (putFl f (.own (ds ++ [d])) fs)))) else .bad
    | _ => .bad)
  | none => .bad
/-- x.f[b] = e -/
def sFSet (C : Str) (i : Nat) (f : Str) (mb me : Env → Out D) : Env → SO := fun Γ => match objAt Γ i with
  | some (C', q, fs) => (match fs.lookup f with
    | some (.own ds) => if C' = C then SO.ofO (me Γ) fun d => SO.ofO (mb Γ) fun y => (match y with
      | .int k => (match ixN ds.length k with
        | some j => .nx (Γ.set i (some (.obj C q (putFl f (.own (ds.set j d)) fs))))
        | none => .bad)
      | _ => .bad) else .bad
    | _ => .bad)
  | none => .bad
section
variable {C : Str} {cl : Addr} {ns : List Str} {x f : Str} {p pos tpos fpos apos cpos : Pos} {e b : Expr}
theorem s_fapp {m : Env → Out D} (i : Nat) (c : ObC X.K X.mg C cl ns) (h : PEm X T E e m) (hf : f ∈ ns := by decide) (hN : X.N[i]? = some x := by rfl) (hv : Vis X.env.scope x := by first | exact Or.inl rfl | exact Or.inr (Or.inl rfl) | exact Or.inr (Or.inr rfl))
    (hb : attributeBase (.Name x p) f X.env (eval (.Name x p) X.env) = eval (.Name x p) X.env := by rfl) (hbase : attributeBase (.Attribute (.Name x p) f fpos) "append" X.env (eval (.Attribute (.Name x p) f fpos) X.env) = eval (.Attribute (.Name x p) f fpos) X.env := by rfl)
    (hfew : ((backTo cpos (starEach [e] X.env)).all (fun x => !x.1) && (backToKw cpos (keywordEach [] X.env)).all (fun x => x.1.isSome) && decide ([e].length + ([] : List Keyword).length + (if ([] : List Keyword).isEmpty then 0 else 1) < 30)) = true := by rfl)
    (hline : (apos.endLine == cpos.line) = true := by rfl) (hs : starEach [e] X.env = (false, eval e X.env) :: starEach [] X.env := by rfl) (hplain : (backTo cpos (starEach [] X.env)).any (·.1) = false := by rfl)
    (hd : (x == ("__debug__" : Str)) = false := by decide) (hcd : (x == ("__classdict__" : Str)) = false := by decide)
    (hsw : swapsWith (.Call (.Attribute (.Attribute (.Name x p) f fpos) "append" apos) [e] [] cpos) none pos.line X.env = pure false := by rfl) :
    PSm X T E (.Expr (.Call (.Attribute (.Attribute (.Name x p) f fpos) "append" apos) [e] [] cpos) pos) (sFApp C i f m) :=
  weakS (ps_expr (pe_bm PySem.F.plainAttrs_list PySem.F.slot_list_append PySem.F.type_list_append mt_append (pe_fld (pe_var hN hv hd hcd) hb) (pa_cons h pa_nil hs) hbase hfew hline hs hplain) hsw) fun Dn σ H h => by
    obtain ⟨Γ, M, M0, H0, e0, r, f0⟩ := h
    unfold sFApp at f0
    cases q : objAt Γ i with
    | none => rw [q] at f0; exact f0.elim
    | some z =>
      obtain ⟨C', q0, fs⟩ := z
      rw [q] at f0
      dsimp only at f0
      cases hl : fs.lookup f with
      | none => rw [hl] at f0; exact f0.elim
      | some fl =>
        rw [hl] at f0
        cases fl with
        | dat d => exact f0.elim
        | own ds =>
          dsimp only at f0
          by_cases hc : C' = C ∧ ds.length < LIM
          · rw [if_pos hc] at f0
            obtain ⟨rfl, hlen⟩ := hc
            obtain ⟨p, g1, g2, g3, g4⟩ := r.objp q
            obtain ⟨cl', dx, vs, a, us, w1, w2, w3, w4, w5, w6⟩ := r.wrL e0 g1 g2 hl r.ext0
            rw [c.gl] at w1
            cases w1
            refine ⟨.ref p, g2, p, cl, dx, vs, .ref a, rfl, w2, c.cls, c.na f hf, w3, .inl ⟨rfl, us, SqL.of w4⟩, Γ, M, H0, r, FinS.ofO e0 f0 fun d v H1 M1 e1 e2 r1 f1 => ?_⟩
            obtain ⟨cl2, dx2, vs2, a2, us2, y1, y2, y3, y4, y5, y6⟩ := r.wrL e0 g1 g2 hl e2
            have hp1 := (g3.ext e2)
            have e3 : H1 p = some (.ins cl dx vs) := e2.kp _ _ w2 True.intro
            rw [e3] at y2
            cases y2
            rw [w3] at y3
            cases y3
            obtain ⟨z1, z2⟩ := y6 (us2 ++ [v]) (ds ++ [d]) (y5.append (.cons r1 .nil))
            refine ⟨a, us2, v, rfl, rfl, y4, ?_, f1 σ _ _ z1 z2⟩
            rw [y5.length, sizeLine_eq]
            exact hlen
          · rw [if_neg hc] at f0
            exact f0.elim
theorem s_fset {mb me : Env → Out D} (i : Nat) (c : ObC X.K X.mg C cl ns) (hB : PEm X T E b mb) (he : PEm X T E e me) (hf : f ∈ ns := by decide) (hN : X.N[i]? = some x := by rfl) (hv : Vis X.env.scope x := by first | exact Or.inl rfl | exact Or.inr (Or.inl rfl) | exact Or.inr (Or.inr rfl)) (hd : (x == ("__debug__" : Str)) = false := by decide)
    (hcd : (x == ("__classdict__" : Str)) = false := by decide) (hb : attributeBase (.Name x p) f X.env (eval (.Name x p) X.env) = eval (.Name x p) X.env := by rfl) (ha : ∀ v, assign (.Subscript (.Attribute (.Name x p) f fpos) b tpos) X.env v = (do
      let ov ← holding [v] (eval (.Attribute (.Name x p) f fpos) X.env)
      let iv ← holding [v, ov] (eval b X.env)
      standAt tpos
      holding [v, ov, iv] (setItem ov iv v)
      release [v, ov, iv] []) := by intro _; rfl) (hs : swapsWithSole [.Subscript (.Attribute (.Name x p) f fpos) b tpos] e pos.line X.env = pure false := by rfl) (hw : swappedStores [.Subscript (.Attribute (.Name x p) f fpos) b tpos] e X.env = pure none := by rfl)
    (h1 : (assignEach [.Subscript (.Attribute (.Name x p) f fpos) b tpos] X.env).map (·.2) = [assign (.Subscript (.Attribute (.Name x p) f fpos) b tpos) X.env] := by rfl) : PSm X T E (.Assign [.Subscript (.Attribute (.Name x p) f fpos) b tpos] e pos) (sFSet C i f mb me) :=
  weakS (ps_asg he (pg_sub (pe_fld (pe_var hN hv hd hcd) hb) hB set_list ha) hs hw h1) fun Dn σ H h => by
    obtain ⟨Γ, M, M0, H0, e0, r, f0⟩ := h
    unfold sFSet at f0
    cases q : objAt Γ i with
    | none => rw [q] at f0; exact f0.elim
    | some z =>
      obtain ⟨C', q0, fs⟩ := z
      rw [q] at f0
      dsimp only at f0
      cases hl : fs.lookup f with
      | none => rw [hl] at f0; exact f0.elim
      | some fl =>
        rw [hl] at f0
        cases fl with
        | dat d => exact f0.elim
        | own ds =>
          dsimp only at f0
          by_cases hc : C' = C
          · rw [if_pos hc] at f0
            subst hc
            obtain ⟨p, g1, g2, g3, g4⟩ := r.objp q
            refine ⟨Γ, M, H0, r, FinS.ofO e0 f0 fun d v H1 M1 e1 e2 r1 f1 => ?_⟩
            obtain ⟨cl', dx, vs, a, us, w1, w2, w3, w4, w5, w6⟩ := r.wrL e0 g1 g2 hl e2
            rw [c.gl] at w1
            cases w1
            refine ⟨.ref p, g2, p, cl, dx, vs, .ref a, rfl, w2, c.cls, c.na f hf, w3, Γ, M1, H0, r.ext e2, FinS.ofO e1 f1 fun y u H2 M2 e3 e4 r3 f2 => ?_⟩
            obtain ⟨cl2, dx2, vs2, a2, us2, y1, y2, y3, y4, y5, y6⟩ := r.wrL e0 g1 g2 hl (e2.trans e4)
            have e3' : H2 p = some (.ins cl dx vs) := e4.kp _ _ w2 True.intro
            rw [e3'] at y2
            cases y2
            rw [w3] at y3
            cases y3
            cases r3 with
            | int k =>
              dsimp only at f2
              cases hj : ixN ds.length k with
              | none => rw [hj] at f2; exact f2.elim
              | some j =>
                rw [hj] at f2
                obtain ⟨z1, z2⟩ := y6 (us2.set j v) (ds.set j d) (y5.set (r1.mono e4.mm) j)
                exact ⟨a, us2, k, j, rfl, rfl, y4, by rw [y5.length]; exact hj, f2 σ _ _ z1 z2⟩
            | _ => exact f2.elim
          · rw [if_neg hc] at f0
            exact f0.elim
end
/-! ### objects made -/
/-- the class C may be made; its __init__ does f -/
def MkW (P : Program) (w : World) (K : PySem.W.Frag) (mg : Str → Option Value) (base : Heap) (T : Tb) (C : Str) (cl : Addr) (k : Nat) (n : Nat) (f : WF) : Prop :=
  ∃ (a : Addr) (fd : FuncData) (ps : List Str), Mk K cl a ∧ Binds K fd ps [] ∧ FnOk P w K mg base (L2N.CX P w) k a fd ps (spWo K mg T C n f)
theorem MkW.mono {P : Program} {w : World} {base : Heap} {C : Str} {cl : Addr} {j k n : Nat} {f : WF} (h : MkW P w K mg base T C cl j n f) (hj : j ≤ k) : MkW P w K mg base T C cl k n f := by
  obtain ⟨a, fd, ps, h1, h2, h3⟩ := h
  exact ⟨a, fd, ps, h1, h2, h3.mono hj⟩
theorem def_okN {P : Program} {w : World} {base : Heap} {C : Str} {cl : Addr} {x q : Str} {params : Arguments} {body : List Stmt} {scope : Scope} {a : Addr} {fd : FuncData} {N ps : List Str} {k : Nat} {m : Env → SW} (n : Nat) (hm : Mk K cl a) (F : FunD K x q params body scope [] [] a fd) (S : FnScope N ps scope) (hn : ps.length = n + 1)
    (hb : ∀ (kV doc pm : Value) (an : Option Addr) (cdv ct : Value) (us : List Value), us.length = ps.length → bindArgs (PySem.W.fnOf x q params body scope .none kV doc pm an cdv ct) ⟨us, []⟩ = pure (ps.zip us))
    (hbody : ∀ (cdv : Value) (A : Around) (outer : List PySem.Env) (s : Shared) (H : Hp) (E : XK), Room k (A.deeper (envOfC q scope s.heap.objs.size a cdv)) →
      PSsW (cxOf (L2N.CX P w) P w K mg base N q scope a cdv A outer s H E) T body m) : MkW P w K mg base T C cl (k + 1) n (defW C (N.length - (n + 1)) m) :=
  ⟨a, fd, ps, hm, F.bindsN hb, F.ok S (fun vs H Q E h => h.1.trans hn.symm) fun cdv A outer s H vs Q E hr h => ⟨_, hbody cdv A outer s H E hr, body_ofW (E := E) h⟩⟩
/-- its __init__, while it only reads -/
def MkR (P : Program) (w : World) (K : PySem.W.Frag) (mg : Str → Option Value) (base : Heap) (T : Tb) (C : Str) (cl : Addr) (k : Nat) (n : Nat) (f : Ob → List D → Out D) : Prop :=
  ∃ (a : Addr) (fd : FuncData) (ps : List Str), Mk K cl a ∧ Binds K fd ps [] ∧ FnOk P w K mg base (L2N.CX P w) k a fd ps (spRo K mg T C n f)
theorem MkR.mono {P : Program} {w : World} {base : Heap} {C : Str} {cl : Addr} {j k n : Nat} {f : Ob → List D → Out D} (h : MkR P w K mg base T C cl j n f) (hj : j ≤ k) : MkR P w K mg base T C cl k n f := by
  obtain ⟨a, fd, ps, h1, h2, h3⟩ := h
  exact ⟨a, fd, ps, h1, h2, h3.mono hj⟩
theorem def_okNR {P : Program} {w : World} {base : Heap} {C : Str} {cl : Addr} {x q : Str} {params : Arguments} {body : List Stmt} {scope : Scope} {a : Addr} {fd : FuncData} {N ps : List Str} {k : Nat} {m : Env → SO} (n : Nat) (hm : Mk K cl a) (F : FunD K x q params body scope [] [] a fd) (S : FnScope N ps scope) (hn : ps.length = n + 1)
    (hb : ∀ (kV doc pm : Value) (an : Option Addr) (cdv ct : Value) (us : List Value), us.length = ps.length → bindArgs (PySem.W.fnOf x q params body scope .none kV doc pm an cdv ct) ⟨us, []⟩ = pure (ps.zip us))
    (hbody : ∀ (cdv : Value) (A : Around) (outer : List PySem.Env) (s : Shared) (H : Hp) (E : XK), Room k (A.deeper (envOfC q scope s.heap.objs.size a cdv)) →
      PSsm (cxOf (L2N.CX P w) P w K mg base N q scope a cdv A outer s H E) T E body m) : MkR P w K mg base T C cl (k + 1) n (defR C (N.length - (n + 1)) m) :=
  ⟨a, fd, ps, hm, F.bindsN hb, F.ok S (fun vs H Q E h => h.1.trans hn.symm) fun cdv A outer s H vs Q E hr h => ⟨_, hbody cdv A outer s H E hr, body_ofR h⟩⟩
theorem ob_new {cl x dx : Addr} {C : Str} (ms : Same M H) (nt : NoT T M H) (tb : Tabs T H) (hC : mg C = some (.ref cl)) (hx : H x = none) (hdx : H dx = none) (ne : dx ≠ x) :
    Same H (L2.upd (L2.upd H dx (.own x)) x (.ins cl dx [])) ∧ Ext T M H M (L2.upd (L2.upd H dx (.own x)) x (.ins cl dx [])) ∧ ObAt K mg M (L2.upd (L2.upd H dx (.own x)) x (.ins cl dx [])) x C [] ∧ ∀ b, ObOwn (L2.upd (L2.upd H dx (.own x)) x (.ins cl dx [])) x [] b → b = x := by
  have s1 : Same H (L2.upd H dx (.own x)) := same_upd hdx
  have s2 : Same (L2.upd H dx (.own x)) (L2.upd (L2.upd H dx (.own x)) x (.ins cl dx [])) := same_upd (by rw [upd_ne (Ne.symm ne)]; exact hx)
  have ss := s1.trans s2
  refine ⟨ss, Ext.grow ms nt ss, ⟨cl, dx, [], hC, upd_same, none_of ms hx, .nil, True.intro⟩, fun b hb => ?_⟩
  rcases hb with hb | ⟨cl', dx', vs', z1, z2⟩
  · exact hb
  · rw [upd_same] at z1
    cases z1
    exact z2.elim
noncomputable def sMk (C : Str) (i n : Nat) (f : WF) (ms : Env → Out (List D)) : Env → SO := fun Γ => SO.ofA (ms Γ) fun ds => if ds.length = n then (match f.at none [] ds with
  | .ok (.non, fs') => .nx (Γ.set i (some (.obj C none fs')))
  | _ => .bad) else .bad
section
variable {C : Str} {cl : Addr} {ns : List Str} {x : Str} {p pos spos xpos : Pos} {k n : Nat} {e : Expr} {es : List Expr} {ms : Env → Out (List D)}
theorem s_mk {f : WF} (i : Nat) (c : ObC X.K X.mg C cl ns) (F : MkW X.prog X.w X.K X.mg X.base T C cl k n f) (hr : Room (k + 1) X.A) (hx : Passes (L2N.CX X.prog X.w) X E) (nd : X.N.Nodup) (hg : Gl X C) (ha : PAm X T E (e :: es) ms) (hdb : (C == ("__debug__" : Str)) = false := by decide)
    (he : starEach (e :: es) X.env = (false, eval e X.env) :: starEach es X.env := by rfl) (hpl : (backTo pos (starEach es X.env)).any (·.1) = false := by rfl) (hi : X.N[i]? = some x := by rfl) (hl : Loc X.env.scope x := by first | exact Or.inl rfl | exact Or.inr rfl) (hs : swapsWith (.Call (.Name C p) (e :: es) [] pos) (some (.Name x xpos)) spos.line X.env = pure false := by rfl)
    (hf : X.fn x = true ∨ X.env.scope.names.lookup x = some .local := by first | exact .inl rfl | exact .inr rfl) : PSm X T E (.Assign [.Name x xpos] (.Call (.Name C p) (e :: es) [] pos) spos) (sMk C i n f ms) := by
  obtain ⟨a, fd, ps, h1, h2, h3⟩ := F
  refine weakS (ps_set nd hi hl (pe_make h1 h3 hr hg c.gl h2 .nil hx ha hdb he hpl) hs hf) fun Dn σ H h => ?_
  obtain ⟨Γ, M, M0, H0, e0, r, f0⟩ := h
  refine ⟨Γ, M, H0, r, FinS.ofA e0 f0 fun ds us H1 M1 e1 e2 r1 f1 => ?_⟩
  intro y dx hy hdx ne
  have rs := r.ext e2
  by_cases hn : ds.length = n
  · rw [if_pos hn] at f1
    obtain ⟨ss, g1, g2, g3⟩ := ob_new (K := X.K) (mg := X.mg) (T := T) (C := C) rs.ms rs.nt rs.tb c.gl hy hdx ne
    rw [List.append_nil]
    refine ⟨by rw [List.length_cons, r1.length, hn], g1.tb rs.tb, M1, y, us, [], ds, rfl, g1.ms, g1.nt, g2, r1, ?_⟩
    cases hf : f.at none [] ds with
    | bad => rw [hf] at f1; exact f1.elim
    | exc z => rw [hf] at f1; exact f1.elim
    | ok z =>
      obtain ⟨d, fs'⟩ := z
      rw [hf] at f1
      rw [WF.at_eq hf y (fun _ z => by cases z)]
      cases d with
      | non =>
        intro v H2 M2 e3 ob fr tb rv
        cases rv
        refine ⟨rfl, ?_⟩
        have cutS : Same H1 (cutH (L2.upd (L2.upd H1 dx (.own y)) y (.ins cl dx [])) y []) := fun b o hb => by
          rw [cut_of fun z => ?_]
          · exact ss b o hb
          · rw [g3 b z, hy] at hb
            cases hb
        have eX : Ext T M1 H1 M2 H2 := ⟨fun b o hb ho => e3.kp b o (cutS b o hb) ho, fun b φ hb => e3.ke b φ (cutS b _ hb), fun _ => tb, e3.mm, e3.ms, e3.nt, fun b o hb => (e3.nw b o hb).imp id fun z u hu => z u (cutS b u hu), fun b hb => (e3.nm b hb).imp id fun z φ hφ => z φ (cutS b _ hφ)⟩
        have fr' : ∀ b, ObOwn H2 y fs' b → Fr H1 b := fun b hb u hu => fr b hb u (cutS b u hu)
        refine f1 _ H2 M2 (e1.trans eX) ((rs.ext eX).put i (s := .obj C none fs') ⟨y, rfl, ob, fun b hb => e1.fresh' (fr' b hb), fun _ z => by cases z⟩ fun j t w b hj q1 q2 o1 o2 => ?_)
        obtain ⟨y', z1, z2⟩ := o1
        cases z1
        obtain ⟨w', w1, w2⟩ := rs.slt j t q1
        rw [q2] at w1
        cases w1
        obtain ⟨u, u1, u2⟩ := (o2.back eX w2).ntbl w2
        obtain ⟨ps, u3⟩ := fr' b z2 u u1
        exact u2 ps u3
      | _ => exact f1.elim
  · rw [if_neg hn] at f1
    exact f1.elim
def mMkX (n : Nat) (f : Ob → List D → Out D) (ms : Env → Out (List D)) : Env → Out D := fun Γ => (ms Γ).bind fun ds => if ds.length = n then (match f [] ds with
  | .exc c => .exc c
  | _ => .bad) else .bad
theorem e_mkX {f : Ob → List D → Out D} (c : ObC X.K X.mg C cl ns) (F : MkR X.prog X.w X.K X.mg X.base T C cl k n f) (hr : Room (k + 1) X.A) (hx : Passes (L2N.CX X.prog X.w) X E) (hg : Gl X C) (ha : PAm X T E (e :: es) ms) (hdb : (C == ("__debug__" : Str)) = false := by decide)
    (he : starEach (e :: es) X.env = (false, eval e X.env) :: starEach es X.env := by rfl) (hpl : (backTo pos (starEach es X.env)).any (·.1) = false := by rfl) : PEm X T E (.Call (.Name C p) (e :: es) [] pos) (mMkX n f ms) := by
  obtain ⟨a, fd, ps, h1, h2, h3⟩ := F
  refine weakE (pe_make h1 h3 hr hg c.gl h2 .nil hx ha hdb he hpl) fun σ H Q h => ?_
  obtain ⟨Γ, M, H0, r, f0⟩ := h
  refine ⟨Γ, M, H0, r, FinA.bindE f0 fun ds us H1 M1 _ e1 r1 f1 => ?_⟩
  intro y dx hy hdx ne
  have rs := r.ext e1
  by_cases hn : ds.length = n
  · rw [if_pos hn] at f1
    obtain ⟨ss, g1, g2, g3⟩ := ob_new (K := X.K) (mg := X.mg) (T := T) (C := C) rs.ms rs.nt rs.tb c.gl hy hdx ne
    rw [List.append_nil]
    refine ⟨by rw [List.length_cons, r1.length, hn], g1.tb rs.tb, M1, y, us, [], ds, rfl, g1.ms, g1.nt, g2, r1, ?_⟩
    cases hf : f [] ds with
    | bad => rw [hf] at f1; exact f1.elim
    | ok z => rw [hf] at f1; exact f1.elim
    | exc z =>
      rw [hf] at f1
      exact fun C' H' M' e2 hC => f1 C' H' M' (g1.trans e2) hC
  · rw [if_neg hn] at f1
    exact f1.elim
end
end FL
set_option Elab.async false
set_option linter.all false
set_option maxRecDepth 100000
set_option maxHeartbeats 4000000
/-! more of objects' lists; x, y = e, [] -/
namespace FL
open PySem PySem.Spec PyProof.Rows L2 LamX
variable {X : Cx} {K : PySem.W.Frag} {mg : Str → Option Value} {T : Tb} {E : XK} {M M0 M1 M' H H0 H1 H' : Hp} {Γ : Env} {σ : L2.St}
def mBad : Env → Out D := fun _ => .bad
theorem e_no {e : Expr} : PEm X T E e mBad := ⟨fun pins s σ H Q I h => by
  obtain ⟨Γ, M, H0, r, f⟩ := h
  exact f.elim⟩
theorem lookup_putFl {f g : Str} {u : Fl} : ∀ fs : Ob, (putFl f u fs).lookup g = if g = f then some u else fs.lookup g
  | [] => by
    show List.lookup g [(f, u)] = _
    by_cases h : g = f
    · subst h
      simp
    · rw [List.lookup_cons, beq_false_of_ne h, if_neg h]
  | (y, x) :: r => by
    unfold putFl
    by_cases e : y = f
    · rw [if_pos e, List.lookup_cons, List.lookup_cons]
      subst e
      by_cases h : g = y
      · subst h
        simp
      · rw [beq_false_of_ne h, if_neg h]
    · rw [if_neg e, List.lookup_cons, List.lookup_cons]
      by_cases h : g = y
      · subst h
        simp [e]
      · rw [beq_false_of_ne h]
        exact lookup_putFl r
section
variable {C : Str} {cl : Addr} {ns : List Str} {x f g : Str} {p p2 pos fpos gpos apos cpos apos2 cpos2 : Pos}
/-- list(x.f), the list that x alone holds -/
def mFLst (C : Str) (i : Nat) (f : Str) : Env → Out D := fun Γ => match obAt Γ i with
  | some (C', fs) => if C' = C then (match fs.lookup f with
    | some (.own ds) => .ok (.lst ds)
    | _ => .bad) else .bad
  | none => .bad
theorem e_flst (i : Nat) (c : ObC X.K X.mg C cl ns) (hm : X.mg "list" = none) (hg : Gl X "list" := by rfl) (hf : f ∈ ns := by decide) (hN : X.N[i]? = some x := by rfl) (hv : Vis X.env.scope x := by first | exact Or.inl rfl | exact Or.inr (Or.inl rfl) | exact Or.inr (Or.inr rfl)) (hd : (x == ("__debug__" : Str)) = false := by decide)
    (hcd : (x == ("__classdict__" : Str)) = false := by decide) (hb : attributeBase (.Name x p) f X.env (eval (.Name x p) X.env) = eval (.Name x p) X.env := by rfl)
    (hs : starEach [.Attribute (.Name x p) f fpos] X.env = (false, eval (.Attribute (.Name x p) f fpos) X.env) :: starEach [] X.env := by rfl) (hpl : (backTo pos (starEach [] X.env)).any (·.1) = false := by rfl) : PEm X T E (.Call (.Name "list" p2) [.Attribute (.Name x p) f fpos] [] pos) (mFLst C i f) :=
  weakE (pe_callTy call_list_of hg hm (by decide +kernel) (pa_cons (pe_fld (pe_var hN hv hd hcd) hb) pa_nil hs) (by decide) (by decide) hs hpl) fun σ H Q h => by
    obtain ⟨Γ, M, H0, r, f0⟩ := h
    unfold mFLst at f0
    cases q : obAt Γ i with
    | none => rw [q] at f0; exact f0.elim
    | some z =>
      obtain ⟨C', fs⟩ := z
      rw [q] at f0
      dsimp only at f0
      by_cases e : C' = C
      · rw [if_pos e] at f0
        subst e
        cases g : fs.lookup f with
        | none => rw [g] at f0; exact f0.elim
        | some u =>
          rw [g] at f0
          cases u with
          | dat d => exact f0.elim
          | own ds =>
            obtain ⟨p, s1, cl', dx, vs, k1, k2, k3, k4, k5⟩ := r.ob q
            rw [c.gl] at k1
            cases k1
            obtain ⟨v, l1, a, us, rfl, l2, l3, l4⟩ := (k4.look (f := f)).1 _ g
            refine ⟨.ref p, s1, p, cl, dx, vs, .ref a, rfl, k2, c.cls, c.na f hf, l1, a, us, rfl, .inl (SqL.of l2), fun l hl => ?_⟩
            obtain ⟨M', e1, r1⟩ := newLst (T := T) hl r.ms r.nt l4
            exact f0 _ _ _ e1 r1
      · rw [if_neg e] at f0
        exact f0.elim
/-- x.f.append(x.g.pop()) -/
def sFMv (C : Str) (i : Nat) (f g : Str) : Env → SO := fun Γ => match objAt Γ i with
  | some (C', q, fs) => (match fs.lookup f, fs.lookup g with
    | some (.own ds), some (.own es) => if C' = C ∧ f ≠ g ∧ ds.length < LIM then (match es[es.length - 1]? with
      | some d => .nx (Γ.set i (some (.obj C q (putFl f (.own (ds ++ [d])) (putFl g (.own es.dropLast) fs)))))
      | none => .bad) else .bad
    | _, _ => .bad)
  | none => .bad
theorem s_fmv (i : Nat) (c : ObC X.K X.mg C cl ns) (hf : f ∈ ns := by decide) (hg : g ∈ ns := by decide) (hN : X.N[i]? = some x := by rfl) (hv : Vis X.env.scope x := by first | exact Or.inl rfl | exact Or.inr (Or.inl rfl) | exact Or.inr (Or.inr rfl))
    (hb : attributeBase (.Name x p) f X.env (eval (.Name x p) X.env) = eval (.Name x p) X.env := by rfl) (hbase : attributeBase (.Attribute (.Name x p) f fpos) "append" X.env (eval (.Attribute (.Name x p) f fpos) X.env) = eval (.Attribute (.Name x p) f fpos) X.env := by rfl)
    (hb2 : attributeBase (.Name x p2) g X.env (eval (.Name x p2) X.env) = eval (.Name x p2) X.env := by rfl) (hbase2 : attributeBase (.Attribute (.Name x p2) g gpos) "pop" X.env (eval (.Attribute (.Name x p2) g gpos) X.env) = eval (.Attribute (.Name x p2) g gpos) X.env := by rfl)
    (hfew : ((backTo cpos (starEach [.Call (.Attribute (.Attribute (.Name x p2) g gpos) "pop" apos2) [] [] cpos2] X.env)).all (fun x => !x.1) && (backToKw cpos (keywordEach [] X.env)).all (fun x => x.1.isSome) && decide ([Expr.Call (.Attribute (.Attribute (.Name x p2) g gpos) "pop" apos2) [] [] cpos2].length + ([] : List Keyword).length + (if ([] : List Keyword).isEmpty then 0 else 1) < 30)) = true := by rfl)
    (hline : (apos.endLine == cpos.line) = true := by rfl) (hline2 : (apos2.endLine == cpos2.line) = true := by rfl) (hs : starEach [.Call (.Attribute (.Attribute (.Name x p2) g gpos) "pop" apos2) [] [] cpos2] X.env = (false, eval (.Call (.Attribute (.Attribute (.Name x p2) g gpos) "pop" apos2) [] [] cpos2) X.env) :: starEach [] X.env := by rfl) (hplain : (backTo cpos (starEach [] X.env)).any (·.1) = false := by rfl)
    (hd : (x == ("__debug__" : Str)) = false := by decide) (hcd : (x == ("__classdict__" : Str)) = false := by decide)
    (hsw : swapsWith (.Call (.Attribute (.Attribute (.Name x p) f fpos) "append" apos) [.Call (.Attribute (.Attribute (.Name x p2) g gpos) "pop" apos2) [] [] cpos2] [] cpos) none pos.line X.env = pure false := by rfl) :
    PSm X T E (.Expr (.Call (.Attribute (.Attribute (.Name x p) f fpos) "append" apos) [.Call (.Attribute (.Attribute (.Name x p2) g gpos) "pop" apos2) [] [] cpos2] [] cpos) pos) (sFMv C i f g) :=
  weakS (ps_expr (pe_bm PySem.F.plainAttrs_list PySem.F.slot_list_append PySem.F.type_list_append mt_append (pe_fld (pe_var hN hv hd hcd) hb) (pa_cons (pe_bm0 PySem.F.plainAttrs_list PySem.F.slot_list_pop PySem.F.type_list_pop mt_pop (pe_fld (pe_var hN hv hd hcd) hb2) hbase2 hline2) pa_nil hs) hbase hfew hline hs hplain) hsw) fun Dn σ H h => by
    obtain ⟨Γ, M, M0, H0, e0, r, f0⟩ := h
    unfold sFMv at f0
    cases q : objAt Γ i with
    | none => rw [q] at f0; exact f0.elim
    | some z =>
      obtain ⟨C', q0, fs⟩ := z
      rw [q] at f0
      dsimp only at f0
      cases hl : fs.lookup f with
      | none => rw [hl] at f0; exact f0.elim
      | some fl =>
        cases fl with
        | dat d => rw [hl] at f0; exact f0.elim
        | own ds =>
          cases hl2 : fs.lookup g with
          | none => rw [hl, hl2] at f0; exact f0.elim
          | some gl =>
            rw [hl, hl2] at f0
            cases gl with
            | dat d => exact f0.elim
            | own es =>
              dsimp only at f0
              by_cases hc : C' = C ∧ f ≠ g ∧ ds.length < LIM
              · rw [if_pos hc] at f0
                obtain ⟨rfl, hfg, hlen⟩ := hc
                cases hd0 : es[es.length - 1]? with
                | none => rw [hd0] at f0; exact f0.elim
                | some d =>
                  rw [hd0] at f0
                  obtain ⟨p, g1, g2, g3, g4⟩ := r.objp q
                  obtain ⟨cl', dx, vs, a, us, w1, w2, w3, w4, w5, w6⟩ := r.wrL e0 g1 g2 hl r.ext0
                  rw [c.gl] at w1
                  cases w1
                  obtain ⟨cl2, dx2, vs2, b, ws, y1, y2, y3, y4, y5, y6⟩ := r.wrL e0 g1 g2 hl2 r.ext0
                  rw [w2] at y2
                  cases y2
                  obtain ⟨v, k1, k2⟩ := y5.get hd0
                  obtain ⟨z1, z2⟩ := y6 ws.dropLast es.dropLast y5.dropLast
                  have hi2 : (Γ.set i (some (.obj C' q0 (putFl g (.own es.dropLast) fs))))[i]? = some (some (.obj C' q0 (putFl g (.own es.dropLast) fs))) := List.getElem?_set_self (lt_of_some g1)
                  obtain ⟨cl3, dx3, vs3, a3, us3, x1, x2, x3, x4, x5, x6⟩ := z2.wrL (f := f) (ds := ds) z1 hi2 g2 (by rw [lookup_putFl, if_neg hfg]; exact hl) z2.ext0
                  have pb : p ≠ b := fun z => by
                    subst z
                    rw [w2] at y4
                    cases y4
                  rw [upd_ne pb, w2] at x2
                  cases x2
                  rw [w3] at x3
                  cases x3
                  obtain ⟨u1, u2⟩ := x6 (us3 ++ [v]) (ds ++ [d]) (x5.append (.cons k2 .nil))
                  rw [List.set_set] at u2
                  refine ⟨.ref p, g2, p, cl, dx, vs, .ref a, rfl, w2, c.cls, c.na f hf, w3, .inl ⟨rfl, us, SqL.of w4⟩, .ref p, g2, p, cl, dx, vs, .ref b, rfl, w2, c.cls, c.na g hg, y3, .inl ⟨rfl, ws, SqL.of y4⟩, b, ws, v, rfl, rfl, y4, by rw [y5.length]; exact k1, a, us3, v, rfl, rfl, x4, ?_, f0 σ _ _ u1 u2⟩
                  rw [x5.length, sizeLine_eq]
                  exact hlen
              · rw [if_neg hc] at f0
                exact f0.elim
end
/-- x, y = e, a list of one's own -/
def sParO (i j : Nat) (ma : Env → Out D) (mb : Env → Out (List D)) : Env → SO := fun Γ => SO.ofO (ma Γ) fun d => SO.ofA (mb Γ) fun ds => .nx ((Γ.set i (some (.dat d))).set j (some (.own ds)))
theorem s_parO {x y : Str} {a b : Expr} {ma : Env → Out D} {mb : Env → Out (List D)} {px py pt pt2 pos : Pos} {kt k2 : Nat} (i j : Nat) (hN : X.N.Nodup) (hc : X.calm = true) (ha : PEm X T E a ma) (hb : PEo X T E b mb) (hi : X.N[i]? = some x := by rfl) (hj : X.N[j]? = some y := by rfl) (hij : i ≠ j := by decide)
    (hx : X.env.scope.names.lookup x = some .local := by rfl) (hy : X.env.scope.names.lookup y = some .local := by rfl) (hs1 : starEach [a, b] X.env = (false, eval a X.env) :: starEach [b] X.env := by rfl) (hs2 : starEach [b] X.env = (false, eval b X.env) :: starEach [] X.env := by rfl)
    (hw : swappedStores [.Tuple [.Name x px, .Name y py] kt pt] (.Tuple [a, b] k2 pt2) X.env = pure (some [x, y]) := by rfl)
    (hs : swapsWithSole [.Tuple [.Name x px, .Name y py] kt pt] (.Tuple [a, b] k2 pt2) pos.line X.env = pure false := by rfl) : PSm X T E (.Assign [.Tuple [.Name x px, .Name y py] kt pt] (.Tuple [a, b] k2 pt2) pos) (sParO i j ma mb) :=
  weakS (ps_par hc hN hi hj hij hx hy (pa_cons ha (pa_cons hb pa_nil hs2) hs1) hw hs) fun Dn σ H h => by
    obtain ⟨Γ, M, M0, H0, e, r, f⟩ := h
    refine ⟨Γ, M, H0, r, FinS.ofO e f fun d v H1 M1 e1 e2 r1 f1 => ?_⟩
    refine ⟨Γ, M1, H0, r.ext e2, FinOw.ofA e1 f1 fun ds p vs H2 M2 e3 e4 h1 h2 h3 rv f2 => ?_⟩
    have rA := ((r.ext e2).set i r1)
    exact ⟨v, .ref p, rfl, f2 _ H2 M2 e3 (rA.putOwn e1 j e4 h1 h2 h3 rv)⟩
end FL
set_option Elab.async false
set_option linter.all false
set_option maxRecDepth 100000
set_option maxHeartbeats 2000000
/-! plans, plain: counts and depths step by step -/
namespace FL
open PySem PySem.Spec PyProof.Rows L2 LamX
theorem mtc_set : ∀ {p : Part} {w : List Int} {i : Nat} {x : Int}, p[i]? = some none → w.length = p.length → mtc (setP p i x) w = (mtc p w && decide (w.getD i 0 = x))
  | [], _, _, _, h, _ => by simp at h
  | a :: p, [], _, _, _, hl => by simp at hl
  | a :: p, y :: w, 0, x, h, hl => by
    simp only [List.getElem?_cons_zero, Option.some.injEq] at h
    subst h
    show (decide (x = y) && mtc p w) = (mtc p w && decide (y = x))
    rw [Bool.and_comm]
    congr 1
    by_cases e : x = y
    · simp [e]
    · simp [e, Ne.symm e]
  | a :: p, y :: w, i + 1, x, h, hl => by
    rw [List.getElem?_cons_succ] at h
    have ih := mtc_set (x := x) (w := w) h (by simpa using hl)
    have e1 : setP (a :: p) (i + 1) x = a :: setP p i x := rfl
    rw [e1]
    cases a with
    | none =>
      show mtc (setP p i x) w = (mtc p w && decide (w.getD i 0 = x))
      exact ih
    | some b =>
      show (decide (b = y) && mtc (setP p i x) w) = ((decide (b = y) && mtc p w) && decide (w.getD i 0 = x))
      rw [ih, Bool.and_assoc]
theorem cntP_cons (w : List Int) (ws : List (List Int)) (p : Part) : cntP (w :: ws) p = (if mtc p w = true then 1 else 0) + cntP ws p := by
  unfold cntP
  rw [List.filter_cons]
  by_cases h : mtc p w = true
  · rw [if_pos h, if_pos h, List.length_cons]
    omega
  · rw [if_neg h, if_neg h]
    omega
theorem sum_pick {L : Nat} {y : Int} (h0 : 0 ≤ y) (h1 : y < (L : Int)) (b : Bool) : ((List.range L).map fun (x : Nat) => if (b && decide (y = (x : Int))) = true then 1 else 0).sum = if b = true then 1 else 0 := by
  cases b with
  | false =>
    simp only [Bool.false_and, Bool.false_eq_true, if_false]
    induction L with
    | zero => rfl
    | succ L ih =>
      by_cases hL : y < (L : Int)
      · rw [List.range_succ, List.map_append, List.sum_append, ih hL]
        rfl
      · have : ∀ k : Nat, ((List.range k).map fun (_ : Nat) => 0).sum = 0 := fun k => by
          induction k with
          | zero => rfl
          | succ k ih => rw [List.range_succ, List.map_append, List.sum_append, ih]; rfl
        exact this _
  | true =>
    simp only [Bool.true_and, if_true, decide_eq_true_eq]
    have z : ∀ k : Nat, (k : Int) ≤ y → ((List.range k).map fun (x : Nat) => if y = (x : Int) then 1 else 0).sum = 0 := fun k => by
      induction k with
      | zero => exact fun _ => rfl
      | succ k ih =>
        intro hk
        rw [List.range_succ, List.map_append, List.sum_append, ih (by omega)]
        have : ¬ y = (k : Int) := by omega
        simp [this]
    induction L with
    | zero => omega
    | succ L ih =>
      rw [List.range_succ, List.map_append, List.sum_append]
      by_cases hL : y < (L : Int)
      · rw [ih hL]
        have : ¬ y = (L : Int) := by omega
        simp [this]
      · have : y = (L : Int) := by omega
        rw [z L (by omega)]
        simp [this]
theorem sum_add {α : Type} (f g : α → Nat) : ∀ xs : List α, (xs.map fun x => f x + g x).sum = (xs.map f).sum + (xs.map g).sum
  | [] => rfl
  | x :: xs => by
    rw [List.map_cons, List.map_cons, List.map_cons, List.sum_cons, List.sum_cons, List.sum_cons, sum_add f g xs]
    omega
theorem cnt_set {L : Nat} : ∀ {ws : List (List Int)} {p : Part} {i : Nat}, (∀ w ∈ ws, w.length = p.length) → (∀ w ∈ ws, ∀ x ∈ w, 0 ≤ x ∧ x < (L : Int)) → p[i]? = some none → cntP ws p = ((List.range L).map fun (x : Nat) => cntP ws (setP p i (x : Int))).sum
  | [], p, i, _, _, _ => by
    have : ∀ k : Nat, ((List.range k).map fun (x : Nat) => cntP [] (setP p i (x : Int))).sum = 0 := fun k => by
      induction k with
      | zero => rfl
      | succ k ih => rw [List.range_succ, List.map_append, List.sum_append, ih]; rfl
    rw [this]
    rfl
  | w :: ws, p, i, hl, hx, hi => by
    have ih := cnt_set (L := L) (ws := ws) (p := p) (i := i) (fun v hv => hl v (List.mem_cons_of_mem _ hv)) (fun v hv => hx v (List.mem_cons_of_mem _ hv)) hi
    have hw := hl w List.mem_cons_self
    have il : i < w.length := by
      rw [hw]
      exact lt_of_some hi
    have hy := hx w List.mem_cons_self (w.getD i 0) (by
      rw [List.getD_eq_getElem?_getD, List.getElem?_eq_getElem il]
      exact List.getElem_mem il)
    rw [cntP_cons, ih]
    have e : (fun (x : Nat) => cntP (w :: ws) (setP p i (x : Int))) = fun (x : Nat) => (if (mtc p w && decide (w.getD i 0 = (x : Int))) = true then 1 else 0) + cntP ws (setP p i (x : Int)) := by
      funext x
      rw [cntP_cons, mtc_set hi hw]
    rw [e, sum_add, sum_pick hy.1 hy.2]
theorem nones_set : ∀ {p : Part} {i : Nat} {x : Int}, p[i]? = some none → nones (setP p i x) + 1 = nones p
  | [], _, _, h => by simp at h
  | a :: p, 0, x, h => by
    simp only [List.getElem?_cons_zero, Option.some.injEq] at h
    subst h
    rfl
  | a :: p, i + 1, x, h => by
    rw [List.getElem?_cons_succ] at h
    have ih := nones_set (x := x) h
    have e1 : setP (a :: p) (i + 1) x = a :: setP p i x := rfl
    rw [e1]
    cases a with
    | none =>
      show nones (setP p i x) + 1 + 1 = nones p + 1
      omega
    | some b => exact ih
theorem okP_iff {L n : Nat} {p : Part} : okP L n p = true ↔ p.length = n ∧ ∀ x i, x ∈ p → x = some i → 0 ≤ i ∧ i < (L : Int) := by
  unfold okP
  rw [Bool.and_eq_true, decide_eq_true_iff, List.all_eq_true]
  refine and_congr_right fun _ => ⟨fun h x i hx e => ?_, fun h x hx => ?_⟩
  · have := h x hx
    subst e
    simpa using this
  · cases x with
    | none => rfl
    | some i => simpa using h _ i hx rfl
theorem okP_set {L n : Nat} {p : Part} {i x : Nat} (h : okP L n p = true) (hx : x < L) : okP L n (setP p i (x : Int)) = true := by
  rw [okP_iff] at h ⊢
  refine ⟨by unfold setP; rw [List.length_set]; exact h.1, fun y j hy e => ?_⟩
  rcases List.mem_or_eq_of_mem_set hy with hy | hy
  · exact h.2 y j hy e
  · rw [hy] at e
    cases e
    omega
theorem nones_zero : ∀ {p : Part}, nones p = 0 ↔ none ∉ p
  | [] => by simp [nones]
  | none :: p => by simp [nones]
  | some a :: p => by
    have := nones_zero (p := p)
    simp [nones, this]
theorem full_some : ∀ {p : Part}, none ∉ p → ∃ q : List Int, p = q.map some
  | [], _ => ⟨[], rfl⟩
  | none :: p, h => by simp at h
  | some a :: p, h => by
    obtain ⟨q, rfl⟩ := full_some (p := p) (fun z => h (List.mem_cons_of_mem _ z))
    exact ⟨a :: q, rfl⟩
theorem mtc_full : ∀ (q w : List Int), mtc (q.map some) w = decide (q = w)
  | [], [] => rfl
  | [], _ :: _ => rfl
  | _ :: _, [] => rfl
  | a :: q, b :: w => by
    show (decide (a = b) && mtc (q.map some) w) = _
    rw [mtc_full q w]
    by_cases h : a = b <;> by_cases h2 : q = w <;> simp [h, h2]
theorem cnt_full {ws : List (List Int)} (nd : ws.Nodup) {p : Part} (h : none ∉ p) : cntP ws p = if p ∈ ws.map (fun w => w.map some) then 1 else 0 := by
  obtain ⟨q, rfl⟩ := full_some h
  have e : (q.map some ∈ ws.map (fun w : List Int => w.map some)) ↔ q ∈ ws := by
    rw [List.mem_map]
    exact ⟨fun ⟨w, h1, h2⟩ => map_some_inj h2 ▸ h1, fun h => ⟨q, h, rfl⟩⟩
  have : cntP ws (q.map some) = if q ∈ ws then 1 else 0 := by
    unfold cntP
    induction ws with
    | nil => rfl
    | cons w ws ih =>
      rw [List.nodup_cons] at nd
      have ih := ih nd.2 (by
        rw [List.mem_map]
        exact ⟨fun ⟨w, h1, h2⟩ => map_some_inj h2 ▸ h1, fun h => ⟨q, h, rfl⟩⟩)
      rw [List.filter_cons, mtc_full]
      by_cases hq : q = w
      · subst hq
        rw [if_pos (by simp), List.length_cons, ih, if_neg nd.1, if_pos List.mem_cons_self]
      · rw [if_neg (by simpa using hq), ih]
        by_cases h2 : q ∈ ws
        · rw [if_pos h2, if_pos (List.mem_cons_of_mem _ h2)]
        · rw [if_neg h2, if_neg (fun z => ?_)]
          rcases List.mem_cons.mp z with z | z
          · exact hq z
          · exact h2 z
  rw [this]
  by_cases h2 : q ∈ ws
  · rw [if_pos h2, if_pos (e.mpr h2)]
  · rw [if_neg h2, if_neg (fun z => h2 (e.mp z))]
/-! ### depths -/
def dbyP (L : Nat) (ws : List (List Int)) (p : Part) (i : Nat) : Nat := 1 + maxN ((List.range L).map fun (x : Nat) => depP L ws (setP p i (x : Int)))
theorem places_none {p : Part} {i : Nat} (h : i ∈ places p) : p[i]? = some none := by
  unfold places at h
  rw [List.mem_filter, List.mem_range] at h
  obtain ⟨h1, h2⟩ := h
  rw [List.getD_eq_getElem?_getD, List.getElem?_eq_getElem h1] at h2
  rw [List.getElem?_eq_getElem h1]
  simp only [Option.getD_some] at h2
  cases q : p[i] with
  | none => rfl
  | some x => rw [q] at h2; cases h2
theorem mem_places {p : Part} {i : Nat} : i ∈ places p ↔ p[i]? = some none := by
  refine ⟨places_none, fun h => ?_⟩
  unfold places
  rw [List.mem_filter, List.mem_range]
  refine ⟨lt_of_some h, ?_⟩
  rw [List.getD_eq_getElem?_getD, h]
  rfl
theorem depF_zero {L : Nat} {ws : List (List Int)} {k : Nat} {p : Part} (h : verP L ws p ≠ none) : depF L ws k p = 0 := by
  cases k with
  | zero => rfl
  | succ k => exact if_neg h
theorem dep_dec {L : Nat} {ws : List (List Int)} {p : Part} (h : verP L ws p ≠ none) : depP L ws p = 0 := depF_zero h
theorem ver_full {L n : Nat} {ws : List (List Int)} {p : Part} (hk : KOk L n ws) (h : nones p = 0) : verP L ws p ≠ none := by
  have := cnt_full hk.nd (nones_zero.mp h)
  unfold verP allP
  rw [h, Nat.pow_zero]
  by_cases c : p ∈ ws.map (fun w => w.map some)
  · rw [if_pos c] at this
    rw [this]
    simp
  · rw [if_neg c] at this
    rw [this]
    simp
theorem dep_step {L n : Nat} {ws : List (List Int)} {p : Part} (hk : KOk L n ws) (h : verP L ws p = none) : depP L ws p = minN ((places p).map (dbyP L ws p)) := by
  unfold depP
  cases q : nones p with
  | zero => exact absurd h (ver_full hk q)
  | succ k =>
    show (if verP L ws p = none then _ else 0) = _
    rw [if_pos h]
    congr 1
    refine List.map_congr_left fun i hi => ?_
    unfold dbyP
    congr 2
    refine List.map_congr_left fun x _ => ?_
    unfold depP
    have := nones_set (x := (x : Int)) (places_none hi)
    rw [show nones (setP p i (x : Int)) = k by omega]
theorem ver_L {L n : Nat} {ws : List (List Int)} {p : Part} (hk : KOk L n ws) (h : verP L ws p = none) : 1 ≤ L := by
  unfold verP at h
  by_cases c : cntP ws p = 0
  · rw [if_pos c] at h
    cases h
  · unfold cntP at c
    have hne : ws.filter (mtc p) ≠ [] := fun z => c (by rw [z]; rfl)
    obtain ⟨w, hw⟩ := List.exists_mem_of_ne_nil _ hne
    have hw2 := (List.mem_filter.mp hw).1
    have hl := hk.len w hw2
    have h1 := hk.n1
    obtain ⟨x, hx⟩ := List.exists_mem_of_ne_nil w (fun z => by rw [z] at hl; simp at hl; omega)
    have := hk.lt w hw2 x hx
    omega
end FL
set_option Elab.async false
set_option linter.all false
set_option maxRecDepth 100000
set_option maxHeartbeats 2000000
/-! plans: what their methods do -/
namespace FL
open PySem PySem.Spec PyProof.Rows L2 LamX
variable {K : PySem.W.Frag} {mg : Str → Option Value} {T : Tb}
/-- less may be said of a method -/
theorem spOf_sub {n : Nat} {f g : List D → Out D} (h : ∀ ds, g ds = .bad ∨ f ds = g ds) {vs : List V} {H : Hp} {Q : VK} {E : XK} (s : spOf K mg T n g vs H Q E) : spOf K mg T n f vs H Q E := by
  obtain ⟨h1, h2, M, ds, h3, h4, h5, h6⟩ := s
  refine ⟨h1, h2, M, ds, h3, h4, h5, ?_⟩
  rcases h ds with q | q
  · rw [q] at h6
    exact h6.elim
  · rw [q]
    exact h6
theorem MtI.sub {P : Program} {w : World} {base : Heap} {C : Addr} {k n : Nat} {x : Str} {f g : List D → Out D} (F : MtI P w K mg base T C k x n f) (h : ∀ ds, g ds = .bad ∨ f ds = g ds) : MtI P w K mg base T C k x n g := by
  obtain ⟨a, fd, ps, h1, h2, h3⟩ := F
  exact ⟨a, fd, ps, h1, h2, h3.imp fun vs H Q E s => spOf_sub h s⟩
theorem mMeth_ok {n : Nat} {f : List D → Out D} {mo : Env → Out D} {ms : Env → Out (List D)} {Γ : Env} {L k : Nat} {ws : List (List Int)} {ds : List D} {o : Out D} (h1 : mo Γ = .ok (.pln L k ws)) (h2 : ms Γ = .ok ds) (hn : ds.length + 1 = n) (h : f (.pln L k ws :: ds) = o) : mMeth n f mo ms Γ = o := by
  unfold mMeth
  rw [h1]
  show ((ms Γ).bind fun ds => arg n f (.pln L k ws :: ds)) = o
  rw [h2]
  show arg n f (.pln L k ws :: ds) = o
  unfold arg
  rw [if_pos (by rw [List.length_cons]; exact hn)]
  exact h
theorem forL_nx {p : Pt} {b : Env → SO} {d : D} {ds : List D} {Γ Γ1 Γ2 : Env} (h1 : bindP p d Γ = some Γ1) (h2 : b Γ1 = .nx Γ2) : forL p b (d :: ds) Γ = forL p b ds Γ2 := by
  show (match bindP p d Γ with
    | none => SO.bad
    | some Γ1 => match b Γ1 with
      | .nx Γ2 => forL p b ds Γ2
      | .ct Γ2 => forL p b ds Γ2
      | .bk Γ2 => .nx Γ2
      | .rt d => .rt d
      | .exc c => .exc c
      | .bad => .bad) = _
  rw [h1]
  dsimp only
  rw [h2]
theorem forL_rt {p : Pt} {b : Env → SO} {d r : D} {ds : List D} {Γ Γ1 : Env} (h1 : bindP p d Γ = some Γ1) (h2 : b Γ1 = .rt r) : forL p b (d :: ds) Γ = .rt r := by
  show (match bindP p d Γ with
    | none => SO.bad
    | some Γ1 => match b Γ1 with
      | .nx Γ2 => forL p b ds Γ2
      | .ct Γ2 => forL p b ds Γ2
      | .bk Γ2 => .nx Γ2
      | .rt d => .rt d
      | .exc c => .exc c
      | .bad => .bad) = _
  rw [h1]
  dsimp only
  rw [h2]
theorem mIf_ok {c : Env → Out Bool} {a b : Env → Out D} {Γ : Env} {x : Bool} (h : c Γ = .ok x) : mIf c a b Γ = if x = true then a Γ else b Γ := by
  unfold mIf
  rw [h]
  rfl
/-! ### with_letter, nothing -/
def m_with_letter : List D → Out D := defM 4 0 (sRet (m2 dRCat (m2 dRCat (mRSl (mVar 1) oNone (oSome (mVar 2))) (mN dRow (mCons (mVar 3) mNil))) (mRSl (mVar 1) (oSome (m2 dAdd (mVar 2) (mC (.int 1)))) oNone)))
def fWith : List D → Out D
  | [.pln L n ws, .row p, .int i, .int x] => if 0 ≤ i ∧ i.toNat < p.length ∧ p.length ≤ 6 then .ok (.row (setP p i.toNat x)) else .bad
  | _ => .bad
theorem cutP_to (p : Part) (k : Nat) (h : k ≤ p.length) : cutP p none (some (k : Int)) = p.take k := by
  unfold cutP
  have e1 : HT.sIx p.length 0 none = 0 := rfl
  have e2 : HT.sIx p.length p.length (some (k : Int)) = k := by
    unfold HT.sIx
    simp only
    split <;> omega
  rw [e1, e2, List.drop_zero, Nat.sub_zero]
theorem cutP_from (p : Part) (k : Nat) (h : k ≤ p.length) : cutP p (some (k : Int)) none = p.drop k := by
  unfold cutP
  have e1 : HT.sIx p.length p.length none = p.length := rfl
  have e2 : HT.sIx p.length 0 (some (k : Int)) = k := by
    unfold HT.sIx
    simp only
    split <;> omega
  rw [e1, e2, List.take_of_length_le (by rw [List.length_drop]; omega)]
theorem set_eq (p : Part) (i : Nat) (x : Int) (h : i < p.length) : p.take i ++ [some x] ++ p.drop (i + 1) = setP p i x := by
  unfold setP
  rw [List.set_eq_take_append_cons_drop, if_pos h, List.append_assoc]
  rfl
theorem with_ok {L n : Nat} {ws : List (List Int)} {p : Part} {i : Nat} {x : Int} (h : i < p.length) (h6 : p.length ≤ 6) : m_with_letter [.pln L n ws, .row p, .int (i : Nat), .int x] = .ok (.row (setP p i x)) := by
  refine defM_rt (sRet_ok (m2_ok (m2_ok (x := .row (p.take i)) (y := .row [some x]) (d := .row (p.take i ++ [some x])) ?_ rfl ?_) (y := .row (p.drop (i + 1))) ?_ ?_))
  · show Out.ok (D.row (cutP p none (some (i : Int)))) = _
    rw [cutP_to p i (by omega)]
  · refine if_pos ?_
    rw [List.length_take]
    unfold LIM
    simp
    omega
  · show Out.ok (D.row (cutP p (some ((i : Int) + 1)) none)) = _
    rw [show ((i : Int) + 1) = ((i + 1 : Nat) : Int) by omega, cutP_from p (i + 1) (by omega)]
  · have e : dRCat (.row (p.take i ++ [some x])) (.row (p.drop (i + 1))) = .ok (.row (p.take i ++ [some x] ++ p.drop (i + 1))) := if_pos (by
      rw [List.length_append, List.length_take, List.length_drop]
      unfold LIM
      simp
      omega)
    rw [e, set_eq p i x h]
theorem with_sub : ∀ ds, fWith ds = .bad ∨ m_with_letter ds = fWith ds := fun ds => by
  unfold fWith
  split
  · rename_i L n ws p i x
    split
    · rename_i h
      right
      obtain ⟨k, rfl⟩ : ∃ k : Nat, i = (k : Nat) := ⟨i.toNat, by omega⟩
      exact with_ok (by simpa using h.2.1) h.2.2
    · exact .inl rfl
  · exact .inl rfl
theorem fWith_ok {L n : Nat} {ws : List (List Int)} {p : Part} {i : Nat} {x : Int} (h : i < p.length) (h6 : p.length ≤ 6) : fWith [.pln L n ws, .row p, .int (i : Nat), .int x] = .ok (.row (setP p i x)) := if_pos ⟨by omega, by simpa using h, h6⟩
def m_nothing : List D → Out D := defM 1 0 (sRet (m2 dRMul (mN dRow (mCons (mC .non) mNil)) (m1 (dPF "long") (mVar 0))))
def fNo : List D → Out D
  | [.pln L n ws] => if 1 ≤ n ∧ n ≤ 6 then .ok (.row (List.replicate n none)) else .bad
  | _ => .bad
theorem rep_flat (n : Nat) : (List.replicate n [(none : Option Int)]).flatten = List.replicate n none := by
  induction n with
  | zero => rfl
  | succ n ih => rw [List.replicate_succ, List.flatten_cons, ih]; rfl
theorem no_sub : ∀ ds, fNo ds = .bad ∨ m_nothing ds = fNo ds := fun ds => by
  unfold fNo
  split
  · rename_i L n ws
    split
    · rename_i h
      right
      refine defM_rt (sRet_ok (m2_ok (x := .row [none]) (y := .int (n : Nat)) rfl rfl ?_))
      show (if ((n : Nat) : Int) = 1 then Out.ok (D.row [none]) else if [(none : Option Int)] ≠ [] ∧ (2 : Int) ≤ (n : Nat) ∧ ((n : Nat) : Int) ≤ 1000 ∧ 1 ≤ 1000 then .ok (D.row (List.replicate ((n : Nat) : Int).toNat [none]).flatten) else .bad) = _
      by_cases h1 : n = 1
      · subst h1
        rfl
      · rw [if_neg (by omega), if_pos ⟨by simp, by omega, by omega, by omega⟩, Int.toNat_natCast, rep_flat]
    · exact .inl rfl
  · exact .inl rfl
/-! ### so_many -/
def m_so : Nat → List D → Out D
  | 0 => fun _ => .bad
  | n + 1 => defM 2 3 (sMemo .cnt (sIf (mT (m2 dNotIn (mC .non) (m1 wk (mVar 1)))) (sMPut .cnt (mN (c1 dInt) (mCons (m2 dInW (m1 wk (mVar 1)) (m1 (dPF "words") (mVar 0))) (mNil)))) (sSeq (sSet 2 (mRM dIdxN (mVar 1) (mC .non))) (sSeq (sSet 3 (mComp [4] (.nm 4) (mI rng1 (mCons (m1 (dPF "letters") (mVar 0)) (mNil))) (tYesM) (mMeth 2 (m_so n) (mVar 0) (mCons (mMeth 4 fWith (mVar 0) (mCons (mVar 1) (mCons (mVar 2) (mCons (mVar 4) (mNil))))) (mNil))))) (sMPut .cnt (mN (c1 dSum) (mCons (mVar 3) (mNil))))))))
open Classical in
noncomputable def fSo : List D → Out D
  | [.pln L n ws, .row p] => if KOk L n ws ∧ okP L n p = true then .ok (.int (cntP ws p : Nat)) else .bad
  | _ => .bad
theorem all_flat_row (p : Part) : (p.map rowD).all flat = true := by
  rw [List.all_eq_true]
  intro d hd
  obtain ⟨x, _, rfl⟩ := List.mem_map.mp hd
  cases x <;> rfl
theorem inD_non : ∀ p : Part, inD .non (p.map rowD) = decide (none ∈ p)
  | [] => rfl
  | none :: p => by
    show (eqv .non .non || inD .non (p.map rowD)) = _
    simp
    left
    rfl
  | some i :: p => by
    have e : inD .non ((some i :: p).map rowD) = (eqv (.int i) .non || inD .non (p.map rowD)) := rfl
    rw [e, inD_non p]
    have : eqv (.int i) .non = false := rfl
    rw [this]
    simp
theorem notIn_row (p : Part) : dNotIn .non (.tup (p.map rowD)) = .ok (.bl (!decide (none ∈ p))) := by
  unfold dNotIn
  rw [if_pos (show inOk .non (.tup (p.map rowD)) = true from by
    show (flat .non && (p.map rowD).all flat) = true
    rw [all_flat_row]
    rfl)]
  show Out.ok (D.bl (!inD .non (p.map rowD))) = _
  rw [inD_non]
theorem partOf_row : ∀ p : Part, partOf (p.map rowD) = some p := fun p => partOf_pD p
theorem idxN_some : ∀ {p : Part}, none ∈ p → ∃ j, idxN p = some j
  | [], h => by simp at h
  | none :: p, _ => ⟨0, rfl⟩
  | some i :: p, h => by
    obtain ⟨j, hj⟩ := idxN_some (p := p) (by simpa using h)
    exact ⟨j + 1, by unfold idxN; rw [hj]; rfl⟩
theorem sum_cast : ∀ ns : List Nat, ((ns.map fun (n : Nat) => (n : Int))).sum = ((ns.sum : Nat) : Int)
  | [] => rfl
  | n :: ns => by
    rw [List.map_cons, List.sum_cons, List.sum_cons, sum_cast ns]
    omega
theorem so_ok {L n : Nat} {ws : List (List Int)} (hk : KOk L n ws) : ∀ (k : Nat) (p : Part), okP L n p = true → nones p < k → m_so k [.pln L n ws, .row p] = .ok (.int (cntP ws p : Nat))
  | 0, p, _, h => by omega
  | k + 1, p, hp, hlt => by
    have hlen := (okP_iff.mp hp).1
    refine defM_rt ?_
    show sMemo .cnt _ [some (.dat (.pln L n ws)), some (.dat (.row p)), none, none, none] = _
    have hs : SelfP [some (.dat (.pln L n ws)), some (.dat (.row p)), none, none, none] = some (L, n, ws, p) := rfl
    have key : ∀ (mb : Env → SO) (a b c : Option Sl), mb [some (.dat (.pln L n ws)), some (.dat (.row p)), none, none, none] = .nx [some (.dat (.pln L n ws)), some (.dat (.row p)), a, b, c] → sMemo .cnt mb [some (.dat (.pln L n ws)), some (.dat (.row p)), none, none, none] = .rt (.int (cntP ws p : Nat)) := fun mb a b c h => by
      unfold sMemo
      rw [hs]
      dsimp only
      rw [h]
      exact if_pos rfl
    have put : ∀ (me : Env → Out D) (a b c : Option Sl), me [some (.dat (.pln L n ws)), some (.dat (.row p)), a, b, c] = .ok (.int (cntP ws p : Nat)) → sMPut .cnt me [some (.dat (.pln L n ws)), some (.dat (.row p)), a, b, c] = .nx [some (.dat (.pln L n ws)), some (.dat (.row p)), a, b, c] := fun me a b c h => by
      unfold sMPut
      show SO.ofO (me _) _ = _
      rw [h]
      exact if_pos ⟨rfl, hp⟩
    by_cases hn : none ∈ p
    · obtain ⟨j, hj⟩ := idxN_some hn
      have hj0 := (idxN_spec hj).1
      refine key _ (some (.dat (.int (j : Nat)))) (some (.dat (.lst ((List.range L).map fun (x : Nat) => D.int (cntP ws (setP p j (x : Int)) : Nat))))) none ?_
      refine (sIf_ok (x := false) (mT_ok (m2_ok (x := .non) (y := .tup (p.map rowD)) rfl rfl (by rw [notIn_row]; simp [hn])))).trans ?_
      rw [if_neg (by decide)]
      refine (sSeq_nx (sSet_ok (d := .int (j : Nat)) (by
        show mRM dIdxN (mVar 1) (mC .non) _ = _
        unfold mRM
        show (match idxN p with | some j => Out.ok (D.int (j : Nat)) | none => .bad) = _
        rw [hj]))).trans ?_
      refine (sSeq_nx (sSet_ok (mComp_all (xs := List.range L) (fun (x : Nat) => D.int (x : Int)) (fun (x : Nat) => D.int (cntP ws (setP p j (x : Int)) : Nat)) (mI_ok (x := [.int (L : Nat)]) rfl (rng1_nat (by have := hk.l3; omega))) (fun x hx => ⟨_, rfl, mMeth_ok (L := L) (k := n) (ws := ws) (ds := [.row (setP p j (x : Int))]) rfl (a1_ok (mMeth_ok (L := L) (k := n) (ws := ws) (ds := [.row p, .int (j : Nat), .int (x : Int)]) rfl rfl rfl (fWith_ok (p := p) (i := j) (x := (x : Int)) (lt_of_some hj0) (by have := hk.n6; omega)))) rfl (so_ok hk k (setP p j (x : Int)) (okP_set hp (List.mem_range.mp hx)) (by have := nones_set (x := (x : Int)) hj0; omega))⟩) (by rw [List.length_range]; unfold LIM; have := hk.l3; omega)))).trans ?_
      refine put _ _ _ _ (b1_ok rfl ?_)
      show onInts _ _ = _
      unfold onInts
      have e : ((List.range L).map fun (x : Nat) => D.int (cntP ws (setP p j (x : Int)) : Nat)) = (((List.range L).map fun (x : Nat) => cntP ws (setP p j (x : Int))).map fun (c : Nat) => (c : Int)).map D.int := by
        rw [List.map_map, List.map_map]
        rfl
      dsimp only
      rw [e, toInts_map]
      show Out.ok (D.int _) = _
      rw [sum_cast, ← cnt_set (L := L) (fun w hw => (hk.len w hw).trans hlen.symm) hk.lt hj0]
    · refine key _ none none none ?_
      refine (sIf_ok (x := true) (mT_ok (m2_ok (x := .non) (y := .tup (p.map rowD)) rfl rfl (by rw [notIn_row]; simp [hn])))).trans ?_
      rw [if_pos rfl]
      refine put _ _ _ _ (b1_ok (m2_ok (x := .tup (p.map rowD)) (y := .wds ws) rfl rfl (d := .bl (decide (p ∈ ws.map (fun w : List Int => w.map some)))) ?_) ?_)
      · show (match partOf (p.map rowD) with
          | some p => Out.ok (D.bl (decide (p ∈ List.map (fun w : List Int => List.map some w) ws)))
          | none => .bad) = _
        rw [partOf_row]
      · show Out.ok (D.int _) = _
        rw [cnt_full hk.nd hn]
        by_cases c : p ∈ ws.map (fun w : List Int => w.map some)
        · simp [c]
        · simp [c]
theorem nones_le : ∀ p : Part, nones p ≤ p.length
  | [] => Nat.le_refl _
  | none :: p => by
    have := nones_le p
    show nones p + 1 ≤ p.length + 1
    omega
  | some _ :: p => by
    have := nones_le p
    show nones p ≤ p.length + 1
    omega
theorem nones_7 {L n : Nat} {ws : List (List Int)} {p : Part} (hk : KOk L n ws) (hp : okP L n p = true) : nones p < 7 := by
  have := nones_le p
  have := (okP_iff.mp hp).1
  have := hk.n6
  omega
theorem so_sub : ∀ ds, fSo ds = .bad ∨ m_so 7 ds = fSo ds := fun ds => by
  unfold fSo
  split
  · rename_i L n ws p
    split
    · rename_i h
      exact .inr (so_ok h.1 7 p h.2 (nones_7 h.1 h.2))
    · exact .inl rfl
  · exact .inl rfl
theorem fSo_ok {L n : Nat} {ws : List (List Int)} {p : Part} (hk : KOk L n ws) (hp : okP L n p = true) : fSo [.pln L n ws, .row p] = .ok (.int (cntP ws p : Nat)) := if_pos ⟨hk, hp⟩
/-! ### all_many -/
def m_all_many : List D → Out D := defM 2 2 (sSeq (sSet 2 (mC (.int 1))) (sSeq (sFor (.nm 3) (mItems (m1 wk (mVar 1))) (sIf (mT (m2 dIsN (mVar 3) (mC .non))) (sSet 2 (m2 dMul (mVar 2) (m1 (dPF "letters") (mVar 0)))) (sNext))) (sRet (mVar 2))))
open Classical in
noncomputable def fAll : List D → Out D
  | [.pln L n ws, .row p] => if KOk L n ws ∧ okP L n p = true then .ok (.int (allP L p : Nat)) else .bad
  | _ => .bad
theorem all_loop {L n : Nat} {ws : List (List Int)} (d : D) (hL : L ≤ 3) : ∀ (p : Part) (c : Nat) (z : Option Sl), p.length ≤ 6 → ∃ z', forL (.nm 3) (sIf (mT (m2 dIsN (mVar 3) (mC .non))) (sSet 2 (m2 dMul (mVar 2) (m1 (dPF "letters") (mVar 0)))) (sNext)) (p.map rowD) [some (.dat (.pln L n ws)), some (.dat d), some (.dat (.int (c : Nat))), z] = .nx [some (.dat (.pln L n ws)), some (.dat d), some (.dat (.int (c * L ^ nones p : Nat))), z']
  | [], c, z, _ => ⟨z, by rw [show c * L ^ nones [] = c from by unfold nones; rw [Nat.pow_zero, Nat.mul_one]]; rfl⟩
  | none :: p, c, z, hl => by
    obtain ⟨z', ih⟩ := all_loop (ws := ws) (n := n) d hL p (c * L) (some (.dat .non)) (by simp at hl; omega)
    refine ⟨z', ?_⟩
    have e : forL (.nm 3) (sIf (mT (m2 dIsN (mVar 3) (mC .non))) (sSet 2 (m2 dMul (mVar 2) (m1 (dPF "letters") (mVar 0)))) (sNext)) ((none :: p).map rowD) [some (.dat (.pln L n ws)), some (.dat d), some (.dat (.int (c : Nat))), z] = forL (.nm 3) (sIf (mT (m2 dIsN (mVar 3) (mC .non))) (sSet 2 (m2 dMul (mVar 2) (m1 (dPF "letters") (mVar 0)))) (sNext)) (p.map rowD) [some (.dat (.pln L n ws)), some (.dat d), some (.dat (.int (c * L : Nat))), some (.dat .non)] := by
      have st : sIf (mT (m2 dIsN (mVar 3) (mC .non))) (sSet 2 (m2 dMul (mVar 2) (m1 (dPF "letters") (mVar 0)))) (sNext) [some (.dat (.pln L n ws)), some (.dat d), some (.dat (.int (c : Nat))), some (.dat .non)] = .nx [some (.dat (.pln L n ws)), some (.dat d), some (.dat (.int (c * L : Nat))), some (.dat .non)] := by
        refine (sIf_ok (x := true) rfl).trans ?_
        rw [if_pos rfl]
        have := sSet_ok (i := 2) (m := m2 dMul (mVar 2) (m1 (dPF "letters") (mVar 0))) (Γ := [some (.dat (.pln L n ws)), some (.dat d), some (.dat (.int (c : Nat))), some (.dat .non)]) (d := .int ((c : Int) * (L : Int))) (m2_ok (x := .int (c : Nat)) (y := .int (L : Nat)) rfl rfl (dMul_r (by omega)))
        rw [this, show ((c * L : Nat) : Int) = (c : Int) * (L : Int) from by rw [Int.natCast_mul]]
        rfl
      exact forL_nx rfl st
    rw [e, ih]
    have e2 : c * L * L ^ nones p = c * L ^ nones (none :: p) := by
      show _ = c * L ^ (nones p + 1)
      rw [Nat.pow_succ, Nat.mul_assoc, Nat.mul_comm L]
    rw [e2]
  | some i :: p, c, z, hl => by
    obtain ⟨z', ih⟩ := all_loop (ws := ws) (n := n) d hL p c (some (.dat (.int i))) (by simp at hl; omega)
    exact ⟨z', ih⟩
theorem all_sub : ∀ ds, fAll ds = .bad ∨ m_all_many ds = fAll ds := fun ds => by
  unfold fAll
  split
  · rename_i L n ws p
    split
    · rename_i h
      right
      obtain ⟨z', e⟩ := all_loop (L := L) (n := n) (ws := ws) (.row p) h.1.l3 p 1 none (by have := (okP_iff.mp h.2).1; have := h.1.n6; omega)
      refine defM_rt ?_
      refine (sSeq_nx (sSet_ok (d := .int 1) rfl)).trans ?_
      refine (sSeq_nx ((sFor_ok (ds := p.map rowD) rfl).trans e)).trans ?_
      refine sRet_ok ?_
      show Out.ok (D.int _) = _
      rw [Nat.one_mul]
      rfl
    · exact .inl rfl
  · exact .inl rfl
theorem fAll_ok {L n : Nat} {ws : List (List Int)} {p : Part} (hk : KOk L n ws) (hp : okP L n p = true) : fAll [.pln L n ws, .row p] = .ok (.int (allP L p : Nat)) := if_pos ⟨hk, hp⟩
/-! ### verdict -/
noncomputable def m_verdict : List D → Out D := defM 2 1 (sSeq (sSet 2 (mMeth 2 fSo (mVar 0) (mCons (mVar 1) (mNil)))) (sSeq (sIf (mT (m2 dEq (mVar 2) (mC (.int 0)))) (sRet (mC (.bl false))) (sNext)) (sRet (mIf (mT (m2 dEq (mVar 2) (mMeth 2 fAll (mVar 0) (mCons (mVar 1) (mNil))))) (mC (.bl true)) (mC .non)))))
def verD : Option Bool → D
  | none => .non
  | some b => .bl b
open Classical in
noncomputable def fVer : List D → Out D
  | [.pln L n ws, .row p] => if KOk L n ws ∧ okP L n p = true then .ok (verD (verP L ws p)) else .bad
  | _ => .bad
theorem ver_sub : ∀ ds, fVer ds = .bad ∨ m_verdict ds = fVer ds := fun ds => by
  unfold fVer
  split
  · rename_i L n ws p
    split
    · rename_i h
      right
      refine defM_rt ?_
      refine (sSeq_nx (sSet_ok (mMeth_ok (L := L) (k := n) (ws := ws) rfl (a1_ok rfl) rfl (fSo_ok h.1 h.2)))).trans ?_
      by_cases c : cntP ws p = 0
      · refine sSeq_rt ?_
        refine (sIf_ok (x := true) (mT_ok (m2_ok (x := .int (cntP ws p : Nat)) (y := .int 0) rfl rfl (by rw [dEq_int]; simp [c])))).trans ?_
        unfold verP
        rw [if_pos c]
        rfl
      · refine (sSeq_nx (sIf_no (mT_ok (m2_ok (x := .int (cntP ws p : Nat)) (y := .int 0) rfl rfl (by rw [dEq_int]; simp; omega))))).trans ?_
        refine sRet_ok ?_
        refine (mIf_ok (mT_ok (b := decide (cntP ws p = allP L p)) (m2_ok (x := .int (cntP ws p : Nat)) (y := .int (allP L p : Nat)) rfl (mMeth_ok (L := L) (k := n) (ws := ws) (ds := [.row p]) rfl rfl rfl (fAll_ok h.1 h.2)) (by rw [dEq_int]; congr 2; exact decide_eq_decide.mpr (by omega))))).trans ?_
        unfold verP
        rw [if_neg c]
        by_cases c2 : cntP ws p = allP L p
        · simp only [c2, decide_true, if_true]
          rfl
        · simp only [c2, decide_false, Bool.false_eq_true, if_false]
          rfl
    · exact .inl rfl
  · exact .inl rfl
theorem fVer_ok {L n : Nat} {ws : List (List Int)} {p : Part} (hk : KOk L n ws) (hp : okP L n p = true) : fVer [.pln L n ws, .row p] = .ok (verD (verP L ws p)) := if_pos ⟨hk, hp⟩
end FL
set_option Elab.async false
set_option linter.all false
set_option maxRecDepth 100000
set_option maxHeartbeats 2000000
/-! plans: depths, the best place -/
namespace FL
open PySem PySem.Spec PyProof.Rows L2 LamX
def m_depby (fd : List D → Out D) : List D → Out D := defM 3 1 (sRet (m2 dAdd (mC (.int 1)) (mN (c1 dMax) (mCons (mComp [3] (.nm 3) (mI rng1 (mCons (m1 (dPF "letters") (mVar 0)) (mNil))) (tYesM) (mMeth 2 fd (mVar 0) (mCons (mMeth 4 fWith (mVar 0) (mCons (mVar 1) (mCons (mVar 2) (mCons (mVar 3) (mNil))))) (mNil)))) (mNil)))))
noncomputable def m_dep : Nat → List D → Out D
  | 0 => fun _ => .bad
  | n + 1 => defM 2 3 (sMemo .dep (sSeq (sSet 2 (mN dLst (mNil))) (sSeq (sIf (mT (m2 dIsN (mMeth 2 fVer (mVar 0) (mCons (mVar 1) (mNil))) (mC .non))) (sSet 2 (mComp [3, 4] (.tp [3, 4]) (mI enumT (mCons (m1 wk (mVar 1)) (mNil))) (mT (m2 dIsN (mVar 4) (mC .non))) (mMeth 3 (m_depby (m_dep n)) (mVar 0) (mCons (mVar 1) (mCons (mVar 3) (mNil)))))) (sNext)) (sMPut .dep (m2 dMinDef (mVar 2) (mC (.int 0)))))))
theorem maxL_cast : ∀ ns : List Nat, ns ≠ [] → maxL (ns.map fun (n : Nat) => (n : Int)) = (maxN ns : Nat)
  | [], h => absurd rfl h
  | [a], _ => by
    show ((a : Nat) : Int) = ((max a 0 : Nat) : Int)
    rw [Nat.max_zero]
  | a :: b :: ns, _ => by
    have ih := maxL_cast (b :: ns) (by simp)
    have e : ∀ (xs : List Int) (u v : Int), xs.foldl (fun a b => if b > a then b else a) (if v > u then v else u) = max u (xs.foldl (fun a b => if b > a then b else a) v) := by
      intro xs
      induction xs with
      | nil =>
        intro u v
        show (if v > u then v else u) = max u v
        split <;> omega
      | cons x xs ih2 =>
        intro u v
        rw [List.foldl_cons, List.foldl_cons]
        have e1 : (if x > (if v > u then v else u) then x else (if v > u then v else u)) = if (if x > v then x else v) > u then (if x > v then x else v) else u := by
          by_cases h1 : x > v <;> by_cases h2 : v > u <;> simp only [h1, h2, if_true, if_false] <;> split <;> first | rfl | omega
        rw [e1, ih2]
    show ((b :: ns).map fun (n : Nat) => (n : Int)).foldl (fun a b => if b > a then b else a) (a : Int) = _
    rw [List.map_cons, List.foldl_cons, e]
    have ih : (ns.map fun (n : Nat) => (n : Int)).foldl (fun a b => if b > a then b else a) (b : Int) = (maxN (b :: ns) : Nat) := ih
    rw [ih]
    show _ = ((max a (maxN (b :: ns)) : Nat) : Int)
    omega
theorem minL_cast : ∀ ns : List Nat, ns ≠ [] → minL (ns.map fun (n : Nat) => (n : Int)) = (minN ns : Nat)
  | [], h => absurd rfl h
  | [a], _ => rfl
  | a :: b :: ns, _ => by
    have ih := minL_cast (b :: ns) (by simp)
    have e : ∀ (xs : List Int) (u v : Int), xs.foldl (fun a b => if b < a then b else a) (if v < u then v else u) = min u (xs.foldl (fun a b => if b < a then b else a) v) := by
      intro xs
      induction xs with
      | nil =>
        intro u v
        show (if v < u then v else u) = min u v
        split <;> omega
      | cons x xs ih2 =>
        intro u v
        rw [List.foldl_cons, List.foldl_cons]
        have e1 : (if x < (if v < u then v else u) then x else (if v < u then v else u)) = if (if x < v then x else v) < u then (if x < v then x else v) else u := by
          by_cases h1 : x < v <;> by_cases h2 : v < u <;> simp only [h1, h2, if_true, if_false] <;> split <;> first | rfl | omega
        rw [e1, ih2]
    show ((b :: ns).map fun (n : Nat) => (n : Int)).foldl (fun a b => if b < a then b else a) (a : Int) = _
    rw [List.map_cons, List.foldl_cons, e]
    have ih : (ns.map fun (n : Nat) => (n : Int)).foldl (fun a b => if b < a then b else a) (b : Int) = (minN (b :: ns) : Nat) := ih
    rw [ih]
    show _ = ((min a (minN (b :: ns)) : Nat) : Int)
    omega
theorem ints_cast (f : Nat → Nat) (xs : List Nat) : (xs.map fun x => D.int (f x : Nat)) = ((xs.map f).map fun (c : Nat) => (c : Int)).map D.int := by
  rw [List.map_map, List.map_map]
  rfl
theorem dMax_nat (f : Nat → Nat) {xs : List Nat} (h : xs ≠ []) : dMax (.lst (xs.map fun x => D.int (f x : Nat))) = .ok (.int (maxN (xs.map f) : Nat)) := by
  rw [ints_cast]
  show onInts fMax _ = _
  unfold onInts
  dsimp only
  rw [toInts_map]
  show fMax _ = _
  unfold fMax
  have hne : (xs.map f).map (fun (c : Nat) => (c : Int)) ≠ [] := by
    intro z
    rw [List.map_eq_nil_iff, List.map_eq_nil_iff] at z
    exact h z
  cases q : (xs.map f).map (fun (c : Nat) => (c : Int)) with
  | nil => exact absurd q hne
  | cons a as =>
    simp only [List.isEmpty_cons, Bool.false_eq_true, if_false]
    rw [← q, maxL_cast _ (by intro z; rw [List.map_eq_nil_iff] at z; exact h z)]
theorem depby_ok {L n : Nat} {ws : List (List Int)} {p : Part} {i : Nat} {fd : List D → Out D} (hk : KOk L n ws) (hp : okP L n p = true) (hL : 1 ≤ L) (hi : p[i]? = some none) (h : ∀ x, x < L → fd [.pln L n ws, .row (setP p i ((x : Nat) : Int))] = .ok (.int (depP L ws (setP p i ((x : Nat) : Int)) : Nat))) :
    m_depby fd [.pln L n ws, .row p, .int (i : Nat)] = .ok (.int (dbyP L ws p i : Nat)) := by
  have hlen := (okP_iff.mp hp).1
  refine defM_rt (sRet_ok ?_)
  refine m2_ok (x := .int 1) (y := .int (maxN ((List.range L).map fun (x : Nat) => depP L ws (setP p i (x : Int))) : Nat)) rfl (b1_ok (x := .lst ((List.range L).map fun (x : Nat) => D.int (depP L ws (setP p i (x : Int)) : Nat))) ?_ ?_) ?_
  · exact mComp_all (xs := List.range L) (fun (x : Nat) => D.int (x : Int)) (fun (x : Nat) => D.int (depP L ws (setP p i (x : Int)) : Nat)) (mI_ok (x := [.int (L : Nat)]) rfl (rng1_nat (by have := hk.l3; omega))) (fun x hx => ⟨_, rfl, mMeth_ok (L := L) (k := n) (ws := ws) (ds := [.row (setP p i (x : Int))]) rfl (a1_ok (mMeth_ok (L := L) (k := n) (ws := ws) (ds := [.row p, .int (i : Nat), .int (x : Int)]) rfl rfl rfl (fWith_ok (p := p) (i := i) (x := (x : Int)) (lt_of_some hi) (by have := hk.n6; omega)))) rfl (h x (List.mem_range.mp hx))⟩) (by rw [List.length_range]; unfold LIM; have := hk.l3; omega)
  · exact dMax_nat (fun (x : Nat) => depP L ws (setP p i (x : Int))) (by intro z; have := congrArg List.length z; rw [List.length_range] at this; simp at this; omega)
  · rw [dAdd_int]
    unfold dbyP
    congr 2
theorem enum_row (p : Part) : enumT [.tup (p.map rowD)] = .ok ((List.range p.length).map fun i => D.tup [.int ((i : Nat) : Int), rowD (p.getD i (some 0))]) := by
  show Out.ok _ = _
  congr 1
  apply List.ext_getElem?
  intro i
  rw [List.getElem?_mapIdx, List.getElem?_map, List.getElem?_map]
  by_cases hi : i < p.length
  · rw [List.getElem?_eq_getElem hi, List.getElem?_range hi]
    simp [List.getD_eq_getElem?_getD, List.getElem?_eq_getElem hi]
  · rw [List.getElem?_eq_none (by omega), List.getElem?_eq_none (by rw [List.length_range]; omega)]
    rfl
theorem isNon_rowD (x : Option Int) : isNon (rowD x) = x.isNone := by cases x <;> rfl
theorem dep_ok {L n : Nat} {ws : List (List Int)} (hk : KOk L n ws) : ∀ (k : Nat) (p : Part), okP L n p = true → nones p < k → m_dep k [.pln L n ws, .row p] = .ok (.int (depP L ws p : Nat))
  | 0, p, _, h => by omega
  | k + 1, p, hp, hlt => by
    have hlen := (okP_iff.mp hp).1
    refine defM_rt ?_
    show sMemo .dep _ [some (.dat (.pln L n ws)), some (.dat (.row p)), none, none, none] = _
    have hs : SelfP [some (.dat (.pln L n ws)), some (.dat (.row p)), none, none, none] = some (L, n, ws, p) := rfl
    have key : ∀ (mb : Env → SO) (a b c : Option Sl), mb [some (.dat (.pln L n ws)), some (.dat (.row p)), none, none, none] = .nx [some (.dat (.pln L n ws)), some (.dat (.row p)), a, b, c] → sMemo .dep mb [some (.dat (.pln L n ws)), some (.dat (.row p)), none, none, none] = .rt (.int (depP L ws p : Nat)) := fun mb a b c h => by
      unfold sMemo
      rw [hs]
      dsimp only
      rw [h]
      exact if_pos rfl
    have put : ∀ (me : Env → Out D) (a b c : Option Sl), me [some (.dat (.pln L n ws)), some (.dat (.row p)), a, b, c] = .ok (.int (depP L ws p : Nat)) → sMPut .dep me [some (.dat (.pln L n ws)), some (.dat (.row p)), a, b, c] = .nx [some (.dat (.pln L n ws)), some (.dat (.row p)), a, b, c] := fun me a b c h => by
      unfold sMPut
      show SO.ofO (me _) _ = _
      rw [h]
      exact if_pos ⟨rfl, hp⟩
    have hv := mMeth_ok (n := 2) (mo := mVar 0) (ms := mCons (mVar 1) mNil) (Γ := [some (.dat (.pln L n ws)), some (.dat (.row p)), some (.dat (.lst [])), none, none]) (L := L) (k := n) (ws := ws) (ds := [.row p]) rfl rfl rfl (fVer_ok hk hp)
    by_cases c : verP L ws p = none
    · have hL := ver_L hk c
      refine key _ (some (.dat (.lst ((places p).map fun i => D.int (dbyP L ws p i : Nat))))) none none ?_
      refine (sSeq_nx (sSet_ok (d := .lst []) rfl)).trans ?_
      refine (sSeq_nx (Γ' := [some (.dat (.pln L n ws)), some (.dat (.row p)), some (.dat (.lst ((places p).map fun i => D.int (dbyP L ws p i : Nat)))), none, none]) ?_).trans ?_
      · refine (sIf_ok (x := true) (mT_ok (m2_ok hv rfl (by rw [c]; rfl)))).trans ?_
        rw [if_pos rfl]
        refine sSet_ok ?_
        have := mComp_ok (vs := [3, 4]) (p := .tp [3, 4]) (it := mI enumT (mCons (m1 wk (mVar 1)) mNil)) (c := mT (m2 dIsN (mVar 4) (mC .non))) (elt := mMeth 3 (m_depby (m_dep k)) (mVar 0) (mCons (mVar 1) (mCons (mVar 3) mNil))) (Γ := [some (.dat (.pln L n ws)), some (.dat (.row p)), some (.dat (.lst [])), none, none]) (xs := List.range p.length)
          (fun i => D.tup [.int ((i : Nat) : Int), rowD (p.getD i (some 0))]) (fun i => (p.getD i (some 0)).isNone) (fun i => D.int (dbyP L ws p i : Nat)) (mI_ok (x := [.tup (p.map rowD)]) rfl (enum_row p)) (fun i hi => ⟨[some (.dat (.pln L n ws)), some (.dat (.row p)), some (.dat (.lst [])), some (.dat (.int (i : Nat))), some (.dat (rowD (p.getD i (some 0))))], rfl, mT_ok (m2_ok rfl rfl (by show Out.ok (D.bl (isNon _)) = _; rw [isNon_rowD])), fun hn => ?_⟩) (by rw [List.length_range, hlen]; unfold LIM; have := hk.n6; omega)
        · exact this
        · have hi0 : p[i]? = some none := places_none (List.mem_filter.mpr ⟨hi, hn⟩)
          exact mMeth_ok (L := L) (k := n) (ws := ws) (ds := [.row p, .int (i : Nat)]) rfl rfl rfl (depby_ok hk hp hL hi0 fun x hx => dep_ok hk k (setP p i (x : Int)) (okP_set hp hx) (by have := nones_set (x := (x : Int)) hi0; omega))
      · refine put _ _ _ _ (m2_ok rfl rfl ?_)
        have hne : places p ≠ [] := fun z => by
          apply ver_full hk (p := p) ?_ c
          rw [nones_zero]
          intro hn
          obtain ⟨i, hi⟩ := List.getElem?_of_mem hn
          have := mem_places.mpr hi
          rw [z] at this
          simp at this
        rw [ints_cast]
        show onInts _ _ = _
        unfold onInts
        dsimp only
        rw [toInts_map]
        dsimp only
        have hne2 : ((places p).map (dbyP L ws p)).map (fun (c : Nat) => (c : Int)) ≠ [] := by
          intro z
          rw [List.map_eq_nil_iff, List.map_eq_nil_iff] at z
          exact hne z
        cases q : ((places p).map (dbyP L ws p)).map (fun (c : Nat) => (c : Int)) with
        | nil => exact absurd q hne2
        | cons a as =>
          simp only [List.isEmpty_cons, Bool.false_eq_true, if_false]
          rw [← q, minL_cast _ (by intro z; rw [List.map_eq_nil_iff] at z; exact hne z), dep_step hk c]
    · refine key _ (some (.dat (.lst []))) none none ?_
      refine (sSeq_nx (sSet_ok (d := .lst []) rfl)).trans ?_
      refine (sSeq_nx (sIf_no (mT_ok (m2_ok hv rfl (by
        cases q : verP L ws p with
        | none => exact absurd q c
        | some b => rfl))))).trans ?_
      refine put _ _ _ _ (m2_ok rfl rfl ?_)
      rw [dep_dec c]
      rfl
open Classical in
noncomputable def fDep : List D → Out D
  | [.pln L n ws, .row p] => if KOk L n ws ∧ okP L n p = true then .ok (.int (depP L ws p : Nat)) else .bad
  | _ => .bad
theorem dep_sub : ∀ ds, fDep ds = .bad ∨ m_dep 7 ds = fDep ds := fun ds => by
  unfold fDep
  split
  · rename_i L n ws p
    split
    · rename_i h
      exact .inr (dep_ok h.1 7 p h.2 (nones_7 h.1 h.2))
    · exact .inl rfl
  · exact .inl rfl
theorem fDep_ok {L n : Nat} {ws : List (List Int)} {p : Part} (hk : KOk L n ws) (hp : okP L n p = true) : fDep [.pln L n ws, .row p] = .ok (.int (depP L ws p : Nat)) := if_pos ⟨hk, hp⟩
open Classical in
noncomputable def fDepBy : List D → Out D
  | [.pln L n ws, .row p, .int i] => if KOk L n ws ∧ okP L n p = true ∧ 1 ≤ L ∧ 0 ≤ i ∧ p[i.toNat]? = some none then .ok (.int (dbyP L ws p i.toNat : Nat)) else .bad
  | _ => .bad
theorem fDepBy_ok {L n : Nat} {ws : List (List Int)} {p : Part} {i : Nat} (hk : KOk L n ws) (hp : okP L n p = true) (hL : 1 ≤ L) (hi : p[i]? = some none) : fDepBy [.pln L n ws, .row p, .int (i : Nat)] = .ok (.int (dbyP L ws p i : Nat)) := if_pos ⟨hk, hp, hL, by omega, hi⟩
theorem depby_sub : ∀ ds, fDepBy ds = .bad ∨ m_depby fDep ds = fDepBy ds := fun ds => by
  unfold fDepBy
  split
  · rename_i L n ws p i
    split
    · rename_i h
      obtain ⟨h1, h2, h3, h4, h5⟩ := h
      obtain ⟨k, rfl⟩ : ∃ k : Nat, i = (k : Nat) := ⟨i.toNat, by omega⟩
      exact .inr (depby_ok h1 h2 h3 h5 fun x hx => fDep_ok h1 (okP_set h2 hx))
    · exact .inl rfl
  · exact .inl rfl
/-! ### best -/
noncomputable def m_best : List D → Out D := defM 2 2 (sSeq (sIf (mT (m2 dNotN (mMeth 2 fVer (mVar 0) (mCons (mVar 1) (mNil))) (mC .non))) (sRet (mC .non)) (sNext)) (sSeq (sFor (.tp [2, 3]) (mI enumT (mCons (m1 wk (mVar 1)) (mNil))) (sIf (tAndM (mT (m2 dIsN (mVar 3) (mC .non))) (mT (m2 dEq (mMeth 3 fDepBy (mVar 0) (mCons (mVar 1) (mCons (mVar 2) (mNil)))) (mMeth 2 fDep (mVar 0) (mCons (mVar 1) (mNil)))))) (sRet (mVar 2)) (sNext))) (sRet (mC .non))))
def bestP (L : Nat) (ws : List (List Int)) (p : Part) : Option Nat := if verP L ws p = none then (places p).find? fun i => decide (dbyP L ws p i = depP L ws p) else none
def natD : Option Nat → D
  | none => .non
  | some i => .int (i : Nat)
open Classical in
noncomputable def fBest : List D → Out D
  | [.pln L n ws, .row p] => if KOk L n ws ∧ okP L n p = true then .ok (natD (bestP L ws p)) else .bad
  | _ => .bad
theorem minN_mem : ∀ {ns : List Nat}, ns ≠ [] → minN ns ∈ ns
  | [], h => absurd rfl h
  | [a], _ => List.mem_singleton.mpr rfl
  | a :: b :: ns, _ => by
    have ih := minN_mem (ns := b :: ns) (by simp)
    show min a (minN (b :: ns)) ∈ _
    by_cases h : a ≤ minN (b :: ns)
    · rw [Nat.min_eq_left h]
      exact List.mem_cons_self
    · rw [Nat.min_eq_right (by omega)]
      exact List.mem_cons_of_mem _ ih
theorem best_loop {L n : Nat} {ws : List (List Int)} {p : Part} (hk : KOk L n ws) (hp : okP L n p = true) (hL : 1 ≤ L) : ∀ (xs : List Nat) (a b : Option Sl), (∀ i ∈ xs, i < p.length) → (∃ a' b', forL (.tp [2, 3]) (sIf (tAndM (mT (m2 dIsN (mVar 3) (mC .non))) (mT (m2 dEq (mMeth 3 fDepBy (mVar 0) (mCons (mVar 1) (mCons (mVar 2) (mNil)))) (mMeth 2 fDep (mVar 0) (mCons (mVar 1) (mNil)))))) (sRet (mVar 2)) (sNext)) (xs.map fun i => D.tup [.int ((i : Nat) : Int), rowD (p.getD i (some 0))]) [some (.dat (.pln L n ws)), some (.dat (.row p)), a, b] =
    match (xs.filter fun i => (p.getD i (some 0)).isNone).find? (fun i => decide (dbyP L ws p i = depP L ws p)) with
    | some i => .rt (.int (i : Nat))
    | none => .nx [some (.dat (.pln L n ws)), some (.dat (.row p)), a', b'])
  | [], a, b, _ => ⟨a, b, rfl⟩
  | i :: xs, a, b, hx => by
    have hi := hx i List.mem_cons_self
    obtain ⟨a', b', ih⟩ := best_loop hk hp hL xs (some (.dat (.int (i : Nat)))) (some (.dat (rowD (p.getD i (some 0))))) (fun j hj => hx j (List.mem_cons_of_mem _ hj))
    refine ⟨a', b', ?_⟩
    rw [List.map_cons, List.filter_cons]
    cases q : (p.getD i (some 0)).isNone with
    | false =>
      rw [if_neg (by decide)]
      refine (forL_nx (Γ1 := [some (.dat (.pln L n ws)), some (.dat (.row p)), some (.dat (.int (i : Nat))), some (.dat (rowD (p.getD i (some 0))))]) rfl ?_).trans ih
      refine sIf_no ?_
      unfold tAndM
      rw [mT_ok (b := false) (m2_ok rfl rfl (by show Out.ok (D.bl (isNon _)) = _; rw [isNon_rowD, q]))]
      rfl
    | true =>
      rw [if_pos rfl, List.find?_cons]
      have hi0 : p[i]? = some none := places_none (List.mem_filter.mpr ⟨List.mem_range.mpr hi, q⟩)
      have test : tAndM (mT (m2 dIsN (mVar 3) (mC .non))) (mT (m2 dEq (mMeth 3 fDepBy (mVar 0) (mCons (mVar 1) (mCons (mVar 2) (mNil)))) (mMeth 2 fDep (mVar 0) (mCons (mVar 1) (mNil))))) [some (.dat (.pln L n ws)), some (.dat (.row p)), some (.dat (.int (i : Nat))), some (.dat (rowD (p.getD i (some 0))))] = .ok (decide (dbyP L ws p i = depP L ws p)) := by
        unfold tAndM
        rw [mT_ok (b := true) (m2_ok rfl rfl (by show Out.ok (D.bl (isNon _)) = _; rw [isNon_rowD, q]))]
        show mT _ _ = _
        refine mT_ok (m2_ok (mMeth_ok (L := L) (k := n) (ws := ws) (ds := [.row p, .int (i : Nat)]) rfl rfl rfl (fDepBy_ok hk hp hL hi0)) (mMeth_ok (L := L) (k := n) (ws := ws) (ds := [.row p]) rfl rfl rfl (fDep_ok hk hp)) ?_)
        rw [dEq_int]
        congr 2
        exact decide_eq_decide.mpr (by omega)
      by_cases c : dbyP L ws p i = depP L ws p
      · rw [decide_eq_true c] at test ⊢
        refine forL_rt (Γ1 := [some (.dat (.pln L n ws)), some (.dat (.row p)), some (.dat (.int (i : Nat))), some (.dat (rowD (p.getD i (some 0))))]) rfl ?_
        refine (sIf_ok test).trans ?_
        rfl
      · rw [decide_eq_false c] at test ⊢
        exact (forL_nx (Γ1 := [some (.dat (.pln L n ws)), some (.dat (.row p)), some (.dat (.int (i : Nat))), some (.dat (rowD (p.getD i (some 0))))]) rfl (sIf_no test)).trans ih
theorem best_sub : ∀ ds, fBest ds = .bad ∨ m_best ds = fBest ds := fun ds => by
  unfold fBest
  split
  · rename_i L n ws p
    split
    · rename_i h
      right
      have hv := mMeth_ok (n := 2) (mo := mVar 0) (ms := mCons (mVar 1) mNil) (Γ := [some (.dat (.pln L n ws)), some (.dat (.row p)), none, none]) (L := L) (k := n) (ws := ws) (ds := [.row p]) rfl rfl rfl (fVer_ok h.1 h.2)
      refine defM_rt ?_
      unfold bestP
      by_cases c : verP L ws p = none
      · rw [if_pos c]
        refine (sSeq_nx (sIf_no (mT_ok (m2_ok hv rfl (by rw [c]; rfl))))).trans ?_
        obtain ⟨a', b', e⟩ := best_loop h.1 h.2 (ver_L h.1 c) (List.range p.length) none none (fun i hi => List.mem_range.mp hi)
        have e2 := (sFor_ok (p := .tp [2, 3]) (it := mI enumT (mCons (m1 wk (mVar 1)) mNil)) (mI_ok (Γ := [some (.dat (.pln L n ws)), some (.dat (.row p)), none, none]) (x := [.tup (p.map rowD)]) rfl (enum_row p))).trans e
        have ep : (List.range p.length).filter (fun i => (p.getD i (some 0)).isNone) = places p := rfl
        rw [ep] at e2
        cases q : (places p).find? (fun i => decide (dbyP L ws p i = depP L ws p)) with
        | none =>
          rw [q] at e2
          exact (sSeq_nx e2).trans rfl
        | some i =>
          rw [q] at e2
          exact sSeq_rt e2
      · rw [if_neg c]
        refine sSeq_rt ?_
        refine (sIf_ok (x := true) (mT_ok (m2_ok hv rfl (by
          cases q : verP L ws p with
          | none => exact absurd q c
          | some b => rfl)))).trans ?_
        rfl
    · exact .inl rfl
  · exact .inl rfl
theorem fBest_ok {L n : Nat} {ws : List (List Int)} {p : Part} (hk : KOk L n ws) (hp : okP L n p = true) : fBest [.pln L n ws, .row p] = .ok (natD (bestP L ws p)) := if_pos ⟨hk, hp⟩
theorem fNo_ok {L n : Nat} {ws : List (List Int)} (hk : KOk L n ws) : fNo [.pln L n ws] = .ok (.row (List.replicate n none)) := if_pos ⟨hk.n1, hk.n6⟩
theorem okP_no (L n : Nat) : okP L n (List.replicate n none) = true := by
  rw [okP_iff]
  refine ⟨List.length_replicate, fun x i hx e => ?_⟩
  rw [List.eq_of_mem_replicate hx] at e
  cases e
end FL
set_option Elab.async false
set_option linter.all false
set_option maxRecDepth 100000
set_option maxHeartbeats 2000000
/-! plans made -/
namespace FL
open PySem PySem.Spec PyProof.Rows L2 LamX
def m_iniW : Env → Out D := mN (c1 dDictW) (mCons (mComp [3] (.nm 3) (mItems (mVar 2)) tYesM (mN dTup (mCons (mVar 3) (mCons (mC (.bl true)) mNil)))) mNil)
theorem toPW_map : ∀ ws : List (List Int), toPW (ws.map fun w => D.tup [.tup (w.map D.int), .bl true]) = some ws
  | [] => rfl
  | w :: ws => by
    show (match toInts (w.map D.int), toPW (ws.map fun w => D.tup [.tup (w.map D.int), .bl true]) with
      | some w, some ws => some (w :: ws)
      | _, _ => none) = _
    rw [toInts_map, toPW_map ws]
theorem dDictW_ok {ws : List (List Int)} (hn : ws.Nodup) (hl : ws.length ≤ 1000) : dDictW (.lst (ws.map fun w => D.tup [.tup (w.map D.int), .bl true])) = .ok (.wds ws) := by
  show (match toPW (ws.map fun w => D.tup [.tup (w.map D.int), .bl true]) with
    | some ws => if ws.Nodup ∧ ws.length ≤ 1000 then Out.ok (D.wds ws) else .bad
    | none => .bad) = _
  rw [toPW_map]
  exact if_pos ⟨hn, hl⟩
theorem kok_len {L n : Nat} {ws : List (List Int)} (hk : KOk L n ws) : ws.length ≤ 900 := by
  have h1 := hk.few
  have h2 := hk.n1
  have := Nat.le_mul_of_pos_right ws.length h2
  omega
theorem iniW_ok {x : Addr} {L n : Nat} {ws : List (List Int)} (hk : KOk L n ws) : m_iniW [some (.dat (.opq x)), some (.dat (kindD L n ws)), some (.dat (.lst (wordsD ws))), none] = .ok (.wds ws) := by
  have h9 := kok_len hk
  refine b1_ok (x := .lst (ws.map fun w => D.tup [.tup (w.map D.int), .bl true])) ?_ (dDictW_ok hk.nd (by omega))
  exact mComp_all (xs := ws) (fun w => D.tup (w.map D.int)) (fun w => D.tup [.tup (w.map D.int), .bl true]) rfl (fun w hw => ⟨_, rfl, rfl⟩) (by unfold LIM; omega)
end FL
set_option Elab.async false
set_option linter.all false
set_option maxRecDepth 100000
set_option maxHeartbeats 2000000
/-! tools for loops; choices; grounds, plain -/
namespace FL
open PySem PySem.Spec PyProof.Rows L2 LamX
theorem set_comm' (Γ : Env) {i j : Nat} (h : i ≠ j) (x y : Option Sl) : (Γ.set i x).set j y = (Γ.set j y).set i x := List.set_comm x y h
theorem own_set {Γ : Env} {i : Nat} {ds : List D} (h : i < Γ.length) : ownAt (Γ.set i (some (.own ds))) i = some ds := by
  unfold ownAt
  rw [List.getElem?_set_self h]
/-- for x in xs: own.extend(..) -/
theorem extd_loop {α : Type} {j i : Nat} {mc : Env → Out D} (hij : i ≠ j) (f : α → D) (g : α → List D) (Γ : Env) (hi : i < Γ.length) : ∀ (xs : List α) (ds : List D) (z : Option Sl), (∀ x ∈ xs, ∀ ds, mc ((Γ.set j (some (.dat (f x)))).set i (some (.own ds))) = .ok (.lst (g x))) → ds.length + (xs.flatMap g).length ≤ LIM →
    ∃ z', forL (.nm j) (sExtd i mc) (xs.map f) ((Γ.set j z).set i (some (.own ds))) = .nx ((Γ.set j z').set i (some (.own (ds ++ xs.flatMap g))))
  | [], ds, z, _, _ => ⟨z, by rw [List.flatMap_nil, List.append_nil]; rfl⟩
  | x :: xs, ds, z, h, hl => by
    rw [List.flatMap_cons, List.length_append] at hl
    obtain ⟨z', e⟩ := extd_loop hij f g Γ hi xs (ds ++ g x) (some (.dat (f x))) (fun y hy => h y (List.mem_cons_of_mem _ hy)) (by rw [List.length_append]; omega)
    refine ⟨z', ?_⟩
    have b1 : bindP (.nm j) (f x) ((Γ.set j z).set i (some (.own ds))) = some ((Γ.set j (some (.dat (f x)))).set i (some (.own ds))) := by
      show some (((Γ.set j z).set i (some (.own ds))).set j (some (.dat (f x)))) = _
      rw [set_comm' _ hij, List.set_set]
    have b2 := sExtd_ok (i := i) (m := mc) (Γ := (Γ.set j (some (.dat (f x)))).set i (some (.own ds))) (own_set (by rw [List.length_set]; exact hi)) (h x List.mem_cons_self ds) (by omega)
    rw [List.set_set] at b2
    rw [List.map_cons, forL_nx b1 b2, e, List.flatMap_cons, List.append_assoc]
/-- for x in xs: .. if ..: return .. -/
theorem forL_find {α : Type} {p : Pt} {b : Env → SO} (f : α → D) (q : α → Option D) (I : Env → Prop) : ∀ {xs : List α} {Γ : Env}, I Γ → (∀ x ∈ xs, ∀ Γ, I Γ → ∃ Γ1, bindP p (f x) Γ = some Γ1 ∧ ((∃ v, q x = some v ∧ b Γ1 = .rt v) ∨ (q x = none ∧ ∃ Γ2, b Γ1 = .nx Γ2 ∧ I Γ2))) →
    (∃ v, xs.findSome? q = some v ∧ forL p b (xs.map f) Γ = .rt v) ∨ (xs.findSome? q = none ∧ ∃ Γ', forL p b (xs.map f) Γ = .nx Γ' ∧ I Γ')
  | [], Γ, h0, _ => .inr ⟨rfl, Γ, rfl, h0⟩
  | x :: xs, Γ, h0, h => by
    obtain ⟨Γ1, h1, h2 | ⟨h2, Γ2, h3, h4⟩⟩ := h x List.mem_cons_self Γ h0
    · obtain ⟨v, h2, h3⟩ := h2
      refine .inl ⟨v, by rw [List.findSome?_cons, h2], ?_⟩
      rw [List.map_cons]
      exact forL_rt h1 h3
    · rw [List.findSome?_cons, h2, List.map_cons, forL_nx h1 h3]
      exact forL_find f q I h4 fun y hy => h y (List.mem_cons_of_mem _ hy)
/-! ### choices -/
def chs : List Int → Nat → List (List Int)
  | _, 0 => [[]]
  | [], _ + 1 => []
  | x :: xs, k + 1 => (chs xs k).map (x :: ·) ++ chs xs (k + 1)
theorem chs_len : ∀ (xs : List Int) (k : Nat), ∀ c ∈ chs xs k, c.length = k
  | _, 0, c, h => by
    unfold chs at h
    rw [List.mem_singleton.mp h]
    rfl
  | [], k + 1, c, h => by
    unfold chs at h
    simp at h
  | x :: xs, k + 1, c, h => by
    unfold chs at h
    rcases List.mem_append.mp h with h | h
    · obtain ⟨d, h1, rfl⟩ := List.mem_map.mp h
      rw [List.length_cons, chs_len xs k d h1]
    · exact chs_len xs (k + 1) c h
theorem chs_sub : ∀ (xs : List Int) (k : Nat), ∀ c ∈ chs xs k, List.Sublist c xs
  | xs, 0, c, h => by
    unfold chs at h
    rw [List.mem_singleton.mp h]
    exact List.nil_sublist xs
  | [], k + 1, c, h => by
    unfold chs at h
    simp at h
  | x :: xs, k + 1, c, h => by
    unfold chs at h
    rcases List.mem_append.mp h with h | h
    · obtain ⟨d, h1, rfl⟩ := List.mem_map.mp h
      exact (chs_sub xs k d h1).cons_cons x
    · exact (chs_sub xs (k + 1) c h).cons x
theorem chs_mem : ∀ {xs c : List Int}, List.Sublist c xs → c ∈ chs xs c.length
  | _, _, .slnil => by
    unfold chs
    exact List.mem_singleton.mpr rfl
  | x :: xs, c, .cons _ h => by
    have ih := chs_mem h
    cases c with
    | nil => unfold chs; exact List.mem_singleton.mpr rfl
    | cons d ds =>
      rw [List.length_cons] at ih ⊢
      unfold chs
      exact List.mem_append_right _ ih
  | x :: xs, _ :: ds, .cons_cons _ h => by
    have ih := chs_mem h
    rw [List.length_cons]
    unfold chs
    exact List.mem_append_left _ (List.mem_map_of_mem ih)
theorem chs_full : ∀ xs : List Int, chs xs xs.length = [xs]
  | [] => rfl
  | x :: xs => by
    have e : chs xs (xs.length + 1) = [] := by
      have aux : ∀ (ys : List Int) (k : Nat), ys.length < k → chs ys k = [] := fun ys => by
        induction ys with
        | nil =>
          intro k hk
          cases k with
          | zero => simp at hk
          | succ k => rfl
        | cons y ys ih =>
          intro k hk
          cases k with
          | zero => simp at hk
          | succ k =>
            unfold chs
            rw [ih k (by simpa using hk), ih (k + 1) (by simp at hk; omega)]
            rfl
      exact aux xs _ (by omega)
    rw [List.length_cons]
    unfold chs
    rw [chs_full xs, e]
    rfl
/-- by the places of the first chosen -/
theorem chs_step (xs : List Int) (k : Nat) : chs xs (k + 1) = (List.range xs.length).flatMap fun i => (chs (xs.drop (i + 1)) k).map (xs.getD i 0 :: ·) := by
  induction xs with
  | nil => rfl
  | cons x xs ih =>
    rw [List.length_cons, List.range_succ_eq_map, List.flatMap_cons, List.flatMap_map]
    show (chs xs k).map (x :: ·) ++ chs xs (k + 1) = _
    rw [ih]
    rfl
theorem chs_count (xs : List Int) (k : Nat) : (chs xs k).length ≤ 2 ^ xs.length := by
  induction xs generalizing k with
  | nil =>
    cases k with
    | zero => exact Nat.le_refl _
    | succ k => exact Nat.zero_le _
  | cons x xs ih =>
    cases k with
    | zero =>
      unfold chs
      exact Nat.one_le_two_pow
    | succ k =>
      unfold chs
      rw [List.length_append, List.length_map, List.length_cons, Nat.pow_succ]
      have := ih k
      have := ih (k + 1)
      omega
def intsN (n : Nat) : List Int := (List.range n).map fun i => ((i : Nat) : Int)
/-! ### grounds -/
def partW (n : Nat) (w c : List Int) : Part := (List.range n).map fun i => if ((i : Nat) : Int) ∈ c then some (w.getD i 0) else none
/-- the first of the fewest places that decide a word -/
def grO (L n : Nat) (ws : List (List Int)) (w : List Int) : Option (List Int) := (List.range (n + 1)).findSome? fun m => (chs (intsN n) m).find? fun c => (verP L ws (partW n w c)).isSome
theorem intsN_len (n : Nat) : (intsN n).length = n := by
  unfold intsN
  rw [List.length_map, List.length_range]
theorem mem_intsN {n : Nat} {x : Int} : x ∈ intsN n ↔ 0 ≤ x ∧ x < (n : Int) := by
  unfold intsN
  rw [List.mem_map]
  refine ⟨fun ⟨i, h1, h2⟩ => ?_, fun h => ⟨x.toNat, List.mem_range.mpr (by omega), by omega⟩⟩
  have := List.mem_range.mp h1
  omega
theorem partW_len (n : Nat) (w c : List Int) : (partW n w c).length = n := by
  unfold partW
  rw [List.length_map, List.length_range]
theorem partW_get {n : Nat} {w c : List Int} {i : Nat} (h : i < n) : (partW n w c)[i]? = some (if ((i : Nat) : Int) ∈ c then some (w.getD i 0) else none) := by
  unfold partW
  rw [List.getElem?_map, List.getElem?_range h]
  rfl
theorem getD_mem {w : List Int} {i : Nat} (h : i < w.length) : w.getD i 0 ∈ w := by
  rw [List.getD_eq_getElem?_getD, List.getElem?_eq_getElem h]
  exact List.getElem_mem h
theorem okP_partW {L n : Nat} {w c : List Int} (hl : w.length = n) (hw : ∀ x ∈ w, 0 ≤ x ∧ x < (L : Int)) : okP L n (partW n w c) = true := by
  rw [okP_iff]
  refine ⟨partW_len n w c, fun x i hx e => ?_⟩
  unfold partW at hx
  obtain ⟨j, h1, h2⟩ := List.mem_map.mp hx
  have hj := List.mem_range.mp h1
  rw [e] at h2
  by_cases hc : ((j : Nat) : Int) ∈ c
  · rw [if_pos hc] at h2
    cases h2
    exact hw _ (getD_mem (by omega))
  · rw [if_neg hc] at h2
    cases h2
theorem partW_full (n : Nat) (w : List Int) : none ∉ partW n w (intsN n) := fun h => by
  unfold partW at h
  obtain ⟨i, h1, h2⟩ := List.mem_map.mp h
  have := List.mem_range.mp h1
  rw [if_pos (mem_intsN.mpr (by omega))] at h2
  cases h2
theorem find_some_iff {α : Type} {p : α → Bool} : ∀ {xs : List α} {x : α}, x ∈ xs → p x = true → ∃ y, xs.find? p = some y := fun {xs x} h hp => by
  cases q : xs.find? p with
  | some y => exact ⟨y, rfl⟩
  | none => exact absurd hp (by simpa using List.find?_eq_none.mp q x h)
theorem findSome_of {α β : Type} {p : α → Option β} : ∀ {xs : List α} {x : α}, x ∈ xs → (∃ y, p x = some y) → ∃ y, xs.findSome? p = some y
  | [], x, h, _ => by simp at h
  | a :: xs, x, h, hp => by
    rw [List.findSome?_cons]
    cases q : p a with
    | some b => exact ⟨b, rfl⟩
    | none =>
      rcases List.mem_cons.mp h with rfl | h
      · obtain ⟨y, hy⟩ := hp
        rw [q] at hy
        cases hy
      · exact findSome_of h hp
theorem grO_some {L n : Nat} {ws : List (List Int)} (hk : KOk L n ws) (w : List Int) : ∃ c, grO L n ws w = some c := by
  unfold grO
  refine findSome_of (x := n) (List.mem_range.mpr (by omega)) (find_some_iff (x := intsN n) ?_ ?_)
  · have := chs_full (intsN n)
    rw [intsN_len] at this
    rw [this]
    exact List.mem_singleton.mpr rfl
  · have := ver_full (L := L) hk (nones_zero.mpr (partW_full n w))
    cases q : verP L ws (partW n w (intsN n)) with
    | none => exact absurd q this
    | some b => rfl
def grP (L n : Nat) (ws : List (List Int)) (w : List Int) : List Int := (grO L n ws w).getD []
theorem findSome_spec {α β : Type} {p : α → Option β} : ∀ {xs : List α} {y : β}, xs.findSome? p = some y → ∃ x ∈ xs, p x = some y
  | [], _, h => by cases h
  | a :: xs, y, h => by
    rw [List.findSome?_cons] at h
    cases q : p a with
    | some b =>
      rw [q] at h
      cases h
      exact ⟨a, List.mem_cons_self, q⟩
    | none =>
      rw [q] at h
      obtain ⟨x, h1, h2⟩ := findSome_spec h
      exact ⟨x, List.mem_cons_of_mem _ h1, h2⟩
theorem grO_spec {L n : Nat} {ws : List (List Int)} {w c : List Int} (h : grO L n ws w = some c) : List.Sublist c (intsN n) ∧ verP L ws (partW n w c) ≠ none := by
  unfold grO at h
  obtain ⟨m, h1, h2⟩ := findSome_spec h
  refine ⟨chs_sub _ _ _ (List.mem_of_find?_eq_some h2), fun z => ?_⟩
  have := List.find?_some h2
  rw [z] at this
  cases this
theorem grP_sub {L n : Nat} {ws : List (List Int)} (hk : KOk L n ws) (w : List Int) : List.Sublist (grP L n ws w) (intsN n) := by
  obtain ⟨c, h⟩ := grO_some hk w
  unfold grP
  rw [h]
  exact (grO_spec h).1
theorem grP_len {L n : Nat} {ws : List (List Int)} (hk : KOk L n ws) (w : List Int) : (grP L n ws w).length ≤ n := by
  have := (grP_sub hk w).length_le
  rw [intsN_len] at this
  exact this
/-! ### free places -/
def frP (L n : Nat) (ws : List (List Int)) : List Nat := (List.range n).filter fun i => ws.all fun w => (List.range L).all fun x => decide (w.set i ((x : Nat) : Int) ∈ ws)
/-! ### the most grounds -/
def minPL : List (Int × List Int) → Int × List Int
  | [] => (0, [])
  | x :: xs => xs.foldl (fun a y => if (if y.1 = a.1 then HT.lexLt y.2 a.2 else decide (y.1 < a.1)) = true then y else a) x
theorem minP_eq (x : Int × List Int) (xs : List (Int × List Int)) : minP x xs = minPL (x :: xs) := by
  unfold minP minPL
  congr 1
  funext a y
  rw [lt_prs]
def mgPrs (L n : Nat) (ws : List (List Int)) : List (Int × List Int) := (allw L n).map fun w => (0 - ((grP L n ws w).length : Int), w)
end FL
set_option Elab.async false
set_option linter.all false
set_option maxRecDepth 100000
set_option maxHeartbeats 4000000
namespace K91
open PySem PySem.Spec PyProof.Rows L2 LamX FL
def topS (i : Nat) : Stmt := PySem.Challenge.pw_fewlooks_k91_lookers_refused.main.body.getD i (.Pass ⟨0, 0, 0, 0⟩)
def clsS (s : Stmt) (j : Nat) : Stmt := match s with
  | .ClassDef _ _ _ body _ _ _ _ _ _ _ => body.getD j (.Pass ⟨0, 0, 0, 0⟩)
  | _ => s
abbrev flds_Looker : List Str := ["plan", "word", "places", "taken"]
structure Gm (K : PySem.W.Frag) (mg : Str → Option Value) : Prop where
  ValueError : mg "ValueError" = none
  all : mg "all" = none
  bool : mg "bool" = none
  dict : mg "dict" = none
  enumerate : mg "enumerate" = none
  int : mg "int" = none
  isinstance : mg "isinstance" = none
  len : mg "len" = none
  list : mg "list" = none
  max : mg "max" = none
  min : mg "min" = none
  range : mg "range" = none
  set : mg "set" = none
  sorted : mg "sorted" = none
  sum : mg "sum" = none
  tuple : mg "tuple" = none
  zip : mg "zip" = none
  c_MOST_LONG : ∃ t, mg "MOST_LONG" = some (.int 6 t)
  x_BadKind : ExI K mg "BadKind"
  x_BadWord : ExI K mg "BadWord"
  x_BadTest : ExI K mg "BadTest"
  x_BadRow : ExI K mg "BadRow"
  x_BadTable : ExI K mg "BadTable"
  x_BadWeb : ExI K mg "BadWeb"
  x_NoFar : ExI K mg "NoFar"
  x_BadPlace : ExI K mg "BadPlace"
  x_Nothing : ExI K mg "Nothing"
def ns : List Str := ["BadKind", "BadWord", "BadTest", "BadRow", "BadTable", "BadWeb", "NoFar", "BadPlace", "Nothing"]
def m_word (isW : D → D → Out D) : FL.Env → SO := sSeq (sSet 1 (mN dLst (mCons (mN (c2 isW) (mCons (mVar 0) (mCons (mC (.fn "BadKind")) (mNil)))) (mCons (mN (c2 isW) (mCons (mVar 0) (mCons (mC (.fn "BadWord")) (mNil)))) (mCons (mN (c2 isW) (mCons (mVar 0) (mCons (mC (.fn "BadTest")) (mNil)))) (mNil)))))) (sSeq (sSet 1 (m2 dAdd (mVar 1) (mN dLst (mCons (mN (c2 isW) (mCons (mVar 0) (mCons (mC (.fn "BadRow")) (mNil)))) (mCons (mN (c2 isW) (mCons (mVar 0) (mCons (mC (.fn "BadPlace")) (mNil)))) (mNil)))))) (sSeq (sSet 1 (m2 dAdd (mVar 1) (mN dLst (mCons (mN (c2 isW) (mCons (mVar 0) (mCons (mC (.fn "BadTable")) (mNil)))) (mCons (mN (c2 isW) (mCons (mVar 0) (mCons (mC (.fn "BadWeb")) (mNil)))) (mCons (mN (c2 isW) (mCons (mVar 0) (mCons (mC (.fn "NoFar")) (mNil)))) (mCons (mN (c2 isW) (mCons (mVar 0) (mCons (mC (.fn "Nothing")) (mNil)))) (mNil)))))))) (sSeq (sIf (tOrM (mT (m2 dNe (mN (c1 dSum) (mCons (mComp [3] (.nm 3) (mItL (mVar 1)) tYesM (mN (c1 dInt) (mCons (mVar 3) (mNil)))) (mNil))) (mC (.int 1)))) (tNotM (mT (mN (c2 isW) (mCons (mVar 0) (mCons (mC (.ty "ValueError")) (mNil))))))) (sRet (mC (.str "other"))) (sNext)) (sSeq (sSet 2 (mN dLst (mCons (mC (.str "BadKind")) (mCons (mC (.str "BadWord")) (mCons (mC (.str "BadTest")) (mCons (mC (.str "BadRow")) (mCons (mC (.str "BadPlace")) (mCons (mC (.str "BadTable")) (mCons (mC (.str "BadWeb")) (mCons (mC (.str "NoFar")) (mCons (mC (.str "Nothing")) (mNil)))))))))))) (sRet (m2 dIx (mVar 2) (mL dIndex (mVar 1) (mC (.bl true)))))))))
theorem word_val {c : Str} {ad : Addr} {isW : D → D → Out D} (hc : c ∈ ns) (h1 : ∀ y ∈ ns, isW (.opq ad) (.fn y) = .ok (.bl (decide (y = c)))) (h2 : isW (.opq ad) (.ty "ValueError") = .ok (.bl true)) : defM 1 3 (m_word isW) [.opq ad] = .ok (.str c) := by
  have e_BadKind := h1 "BadKind" (by decide)
  have e_BadWord := h1 "BadWord" (by decide)
  have e_BadTest := h1 "BadTest" (by decide)
  have e_BadRow := h1 "BadRow" (by decide)
  have e_BadTable := h1 "BadTable" (by decide)
  have e_BadWeb := h1 "BadWeb" (by decide)
  have e_NoFar := h1 "NoFar" (by decide)
  have e_BadPlace := h1 "BadPlace" (by decide)
  have e_Nothing := h1 "Nothing" (by decide)
  simp only [ns, List.mem_cons, List.not_mem_nil, or_false] at hc
  rcases hc with rfl | rfl | rfl | rfl | rfl | rfl | rfl | rfl | rfl
  all_goals
    (simp only [m_word, defM, sSeq, sSet, sIf, sRet, SO.ofO, SO.ofB, mN, mCons, mNil, mVar, mC, c2, m2, Out.bind, List.map_cons, List.map_nil, List.replicate, List.cons_append, List.nil_append, List.getElem?_cons_zero, List.getElem?_cons_succ, dLst, dAdd, LIM, tOrM, mT, tNotM, List.length_cons, List.length_nil, Nat.zero_add, Nat.reduceAdd, Nat.reduceLeDiff, if_true, List.set_cons_succ, List.set_cons_zero, e_BadKind, e_BadWord, e_BadTest, e_BadRow, e_BadTable, e_BadWeb, e_NoFar, e_BadPlace, e_Nothing, h2]
     rfl)
noncomputable def m_Looker_lookW : WF := defW "Looker" 0 (wSeq (sIf (tOrM (mT (mN (c2 dIsi) (mCons (mVar 1) (mCons (mC (.ty "bool")) (mNil))))) (tOrM (tNotM (mT (mN (c2 dIsi) (mCons (mVar 1) (mCons (mC (.ty "int")) (mNil)))))) (tNotM (mT (mChain dLe dLt (mC (.int 0)) (mVar 1) (mN (c1 dLen) (mCons (mFld "Looker" 0 "word") (mNil)))))))) (sRaise "BadPlace") (sNext)) (wSeq (sIf (tFrz 0 "places" (mT (m2 dIn (mVar 1) (mFld "Looker" 0 "places")))) (sRaise "BadPlace") (sNext)) (wSeq (sFApp "Looker" 0 "places" (mVar 1)) (wSeq (sSetFO "Looker" 0 "taken" ((fun Γ => ((mNil) Γ).bind limO))) (wRet (m2 dIx (mFld "Looker" 0 "word") (mVar 1)))))))
noncomputable def m_Looker_lookX : Ob → List D → Out D := defR "Looker" 0 (sSeq (sIf (tOrM (mT (mN (c2 dIsi) (mCons (mVar 1) (mCons (mC (.ty "bool")) (mNil))))) (tOrM (tNotM (mT (mN (c2 dIsi) (mCons (mVar 1) (mCons (mC (.ty "int")) (mNil)))))) (tNotM (mT (mChain dLe dLt (mC (.int 0)) (mVar 1) (mN (c1 dLen) (mCons (mFld "Looker" 0 "word") (mNil)))))))) (sRaise "BadPlace") (sNext)) (sSeq (sIf (tFrz 0 "places" (mT (m2 dIn (mVar 1) (mFld "Looker" 0 "places")))) (sRaise "BadPlace") (sNext)) (sBad)))
noncomputable def m_Looker_lookedR : Ob → List D → Out D := defR "Looker" 0 (sRet (mFLst "Looker" 0 "places"))
noncomputable def m_Looker_redoX : Ob → List D → Out D := defR "Looker" 0 (sSeq (sIf (tFrz 0 "taken" (mT (m2 dEq (mFld "Looker" 0 "taken") (mN dLst (mNil))))) (sRaise "Nothing") (sNext)) (sBad))
noncomputable def m_L_cell : List D → Out D := defM 2 0 (sSeq (sIf (mT (m2 dEq (mVar 0) (mN dLst (mNil)))) (sRet (m2 dMul (mVar 1) (mC (.int 7919)))) (sNext)) (sRet (m2 dAdd (m2 dIx (mVar 0) (m2 dMod (mVar 1) (mN (c1 dLen) (mCons (mVar 0) (mNil))))) (m2 dMul (m2 dDiv (mVar 1) (mN (c1 dLen) (mCons (mVar 0) (mNil)))) (mC (.int 104729))))))
noncomputable def m_L_drawn : List D → Out D := defM 2 1 (sSeq (sSet 2 (m2 dMod (m2 dAdd (m2 dMul (mVar 0) (mC (.int 6364136223846793005))) (m2 dMul (m2 dAdd (mVar 1) (mC (.int 1))) (mC (.int 1442695040888963407)))) (mC (.int 340282366920938463463374607431768211507)))) (sSeq (sSet 2 (m2 dMod (m2 dMul (mVar 2) (mVar 2)) (mC (.int 340282366920938463463374607431768211297)))) (sSeq (sSet 2 (m2 dMul (m2 dMul (m2 dAdd (m2 dMod (mVar 2) (mC (.int 18446744073709551557))) (mC (.int 1))) (m2 dAdd (m2 dDiv (mVar 2) (mC (.int 18446744073709551557))) (mC (.int 1)))) (mVar 2))) (sRet (m2 dMod (mVar 2) (mC (.int 340282366920938463463374607431768211507)))))))
noncomputable def m_L_words : List D → Out D := defM 2 5 (sSeq (sSet 2 (mN dLst (mCons (mN dTup (mNil)) (mNil)))) (sSeq (sFor (.nm 3) (mI rng1 (mCons (mVar 1) (mNil))) (sSeq (sSet 4 (mN dLst (mNil))) (sSeq (sFor (.nm 5) (mItems (mVar 2)) (sSet 4 (m2 dAdd (mVar 4) (mComp [6] (.nm 6) (mI rng1 (mCons (mVar 0) (mNil))) (tYesM) (m2 dAdd (mVar 5) (mN dTup (mCons (mVar 6) (mNil)))))))) (sSet 2 (mVar 4))))) (sRet (mVar 2))))
noncomputable def m_all_words : List D → Out D := defM 1 5 (sSeq (sSet 1 (mN dLst (mCons (mN dTup (mNil)) (mNil)))) (sSeq (sFor (.nm 2) (mI rng1 (mCons (m2 dIx (mVar 0) (mC (.int 1))) (mNil))) (sSeq (sOwn 3 (mNil)) (sSeq (sFor (.nm 4) (mItems (mVar 1)) (sExtd 3 (mComp [5] (.nm 5) (mI rng1 (mCons (m2 dIx (mVar 0) (mC (.int 0))) (mNil))) (tYesM) (m2 dAdd (mVar 4) (mN dTup (mCons (mVar 5) (mNil))))))) (sFrz 3 (sSet 1 (mVar 3)))))) (sRet (mVar 1))))
def m_choices : Nat → List D → Out D
  | 0 => fun _ => .bad
  | n + 1 => defM 2 4 (sSeq (sIf (mT (m2 dEq (mVar 1) (mC (.int 0)))) (sRet (mN dLst (mCons (mN dTup (mNil)) (mNil)))) (sNext)) (sSeq (sOwn 2 (mNil)) (sSeq (sFor (.tp [3, 4]) (mI enumI (mCons (mVar 0) (mNil))) (sExtd 2 (mComp [5] (.nm 5) (mItems (mN (arg 2 (m_choices n)) (mCons (mSl (mVar 0) (oSome (m2 dAdd (mVar 3) (mC (.int 1)))) (oNone)) (mCons (m2 dSub (mVar 1) (mC (.int 1))) (mNil))))) (tYesM) (m2 dAdd (mN dTup (mCons (mVar 4) (mNil))) (mVar 5))))) (sFrz 2 (sRet (mVar 2))))))
noncomputable def m_is_word : List D → Out D := defM 3 1 (sSeq (sIf (tOrM (tNotM (mT (mN (c2 dIsi) (mCons (mVar 0) (mCons (mC (.ty "tuple")) (mNil)))))) (mT (m2 dNe (mN (c1 dLen) (mCons (mVar 0) (mNil))) (mVar 2)))) (sRet (mC (.bl false))) (sNext)) (sRet (mN (c1 dAll) (mCons (mComp [3] (.nm 3) (mItems (mVar 0)) (tYesM) (mAnd (mN (c2 dIsi) (mCons (mVar 3) (mCons (mC (.ty "int")) (mNil)))) (mAnd (m1 dNot (mN (c2 dIsi) (mCons (mVar 3) (mCons (mC (.ty "bool")) (mNil))))) (mChain dLe dLt (mC (.int 0)) (mVar 3) (mVar 1))))) (mNil)))))
noncomputable def m_L_kind : List D → Out D := defM 2 7 (sSeq (sSet 2 (m2 dAdd (mC (.int 2)) (mN (c1 dInt) (mCons (m2 dEq (m2 dMod (mVar 0) (mC (.int 4))) (mC (.int 0))) (mNil))))) (sSeq (sSet 3 (m2 dAdd (mC (.int 1)) (m2 dMod (m2 dDiv (mVar 0) (mC (.int 4))) (m2 dIx (mN dLst (mCons (mVar 1) (mCons (m2 dSub (mVar 1) (mC (.int 1))) (mNil)))) (m2 dSub (mVar 2) (mC (.int 2))))))) (sSeq (sSet 4 (mN (arg 2 m_L_words) (mCons (mVar 2) (mCons (mVar 3) (mNil))))) (sSeq (sSet 5 (m2 dMod (m2 dDiv (mVar 0) (mC (.int 64))) (mC (.int 6)))) (sSeq (sSet 6 (mComp [7, 8] (.tp [7, 8]) (mI enumI (mCons (mVar 4) (mNil))) (mT (m2 dEq (m2 dMod (mN (arg 2 m_L_drawn) (mCons (mVar 0) (mCons (mVar 7) (mNil)))) (m2 dIx (mN dLst (mCons (mC (.int 2)) (mCons (mC (.int 3)) (mCons (mC (.int 6)) (mNil))))) (m2 dMod (m2 dDiv (mVar 0) (mC (.int 512))) (mC (.int 3))))) (mC (.int 0)))) (mVar 8))) (sSeq (sIf (mT (m2 dEq (mVar 5) (mC (.int 1)))) (sSet 6 (mN dLst (mCons (m2 dIx (mVar 4) (m2 dMod (m2 dDiv (mVar 0) (mC (.int 2048))) (mN (c1 dLen) (mCons (mVar 4) (mNil))))) (mNil)))) (sNext)) (sSeq (sIf (mT (m2 dEq (mVar 5) (mC (.int 2)))) (sSet 6 (mComp [8] (.nm 8) (mItems (mVar 4)) (mT (m2 dEq (m1 dLenSet (mVar 8)) (mC (.int 1)))) (mVar 8))) (sNext)) (sSeq (sIf (mT (m2 dEq (mVar 5) (mC (.int 3)))) (sSet 6 (mComp [8] (.nm 8) (mItems (mVar 4)) (mT (m2 dEq (m2 dMod (mN (c1 dSumT) (mCons (mVar 8) (mNil))) (mC (.int 2))) (m2 dMod (m2 dDiv (mVar 0) (mC (.int 2048))) (mC (.int 2))))) (mVar 8))) (sNext)) (sSeq (sIf (mT (m2 dEq (mVar 5) (mC (.int 4)))) (sSet 6 (mComp [8] (.nm 8) (mItems (mVar 4)) (mT (m2 dEq (mN (c1 dList) (mCons (mVar 8) (mNil))) (mN (c1 dSortedT) (mCons (mVar 8) (mNil))))) (mVar 8))) (sNext)) (sSeq (sIf (mT (m2 dEq (mVar 6) (mN dLst (mNil)))) (sSet 6 (mN dLst (mCons (m2 dIx (mVar 4) (mC (.int 0))) (mNil)))) (sNext)) (sRet (mN dTup (mCons (mVar 2) (mCons (mVar 3) (mCons (mVar 6) (mNil))))))))))))))))
noncomputable def m_need_kind : List D → Out D := defM 1 7 (sSeq (sTup (.tp [1, 2, 3]) (mVar 0)) (sSeq (sSet 4 (mAnd (m2 dIn (mVar 1) (mN dTup (mCons (mC (.int 2)) (mCons (mC (.int 3)) (mNil))))) (mAnd (mChain dLe dLe (mC (.int 1)) (mVar 2) (mC (.int 6))) (m2 dGt (mN (c1 dLen) (mCons (mVar 3) (mNil))) (mC (.int 0)))))) (sSeq (sIf (tOrM (tNotM (mT (mVar 4))) (tNotM (mT (mN (c1 dAll) (mCons (mComp [5] (.nm 5) (mItems (mVar 3)) (tYesM) (mN (arg 3 m_is_word) (mCons (mVar 5) (mCons (mVar 1) (mCons (mVar 2) (mNil)))))) (mNil)))))) (sRaise "BadKind") (sNext)) (sIf (tNotM (mT (mN (c1 dAll) (mCons (mComp [6, 7] (.tp [6, 7]) (mI zipI (mCons (mVar 3) (mCons (mSl (mVar 3) (oSome (mC (.int 1))) (oNone)) (mNil)))) (tYesM) (m2 dLt (mVar 6) (mVar 7))) (mNil))))) (sRaise "BadKind") (sNext)))))
noncomputable def m_free_places : List D → Out D := defM 1 6 (sSeq (sDrop (mN (arg 1 m_need_kind) (mCons (mVar 0) (mNil)))) (sSeq (sSet 1 (mN (c1 dDictW) (mCons (mComp [5] (.nm 5) (mItems (m2 dIx (mVar 0) (mC (.int 2)))) (tYesM) (mN dTup (mCons (mVar 5) (mCons (mC (.bl true)) (mNil))))) (mNil)))) (sSeq (sOwn 2 (mNil)) (sSeq (sFor (.nm 3) (mI rng1 (mCons (m2 dIx (mVar 0) (mC (.int 1))) (mNil))) (sSeq (sOwn 4 (mNil)) (sSeq (sFor (.nm 5) (mItems (m2 dIx (mVar 0) (mC (.int 2)))) (sExtd 4 (mComp [6] (.nm 6) (mI rng1 (mCons (m2 dIx (mVar 0) (mC (.int 0))) (mNil))) (tYesM) (m2 dAdd (m2 dAdd (mSl (mVar 5) (oNone) (oSome (mVar 3))) (mN dTup (mCons (mVar 6) (mNil)))) (mSl (mVar 5) (oSome (m2 dAdd (mVar 3) (mC (.int 1)))) (oNone)))))) (sIf (mT (mN (c1 dAll) (mCons (mComp [5] (.nm 5) (mOItems 4) (tYesM) (m2 dInW (mVar 5) (mVar 1))) (mNil)))) (sApp 2 (mVar 3)) (sNext))))) (sFrz 2 (sRet (mVar 2)))))))
noncomputable def m_need_word : List D → Out D := defM 2 0 (sSeq (sDrop (mN (arg 1 m_need_kind) (mCons (mVar 0) (mNil)))) (sIf (tNotM (mT (mN (arg 3 m_is_word) (mCons (mVar 1) (mCons (m2 dIx (mVar 0) (mC (.int 0))) (mCons (m2 dIx (mVar 0) (mC (.int 1))) (mNil))))))) (sRaise "BadWord") (sNext)))
noncomputable def m_Looker_initN : WF := defW "Looker" 0 (wSeq (sDrop (mN (arg 2 m_need_word) (mCons (mVar 1) (mCons (mVar 2) (mNil))))) (wSeq (sSetF "Looker" 0 "plan" (m1 dPlan (mN dTup (mCons (m2 dIx (mVar 1) (mC (.int 0))) (mCons (m2 dIx (mVar 1) (mC (.int 1))) (mCons (mN (c1 dList) (mCons (m2 dIx (mVar 1) (mC (.int 2))) (mNil))) (mNil))))))) (wSeq (sSetF "Looker" 0 "word" (mVar 2)) (wSeq (sSetFO "Looker" 0 "places" ((fun Γ => ((mNil) Γ).bind limO))) (wSeq (sSetFO "Looker" 0 "taken" ((fun Γ => ((mNil) Γ).bind limO))) (wEnd))))))
noncomputable def m_Looker_initX : Ob → List D → Out D := defR "Looker" 0 (sSeq (sDrop (mN (arg 2 m_need_word) (mCons (mVar 1) (mCons (mVar 2) (mNil))))) (sBad))
noncomputable def m_grounds_of : List D → Out D := defM 2 4 (sSeq (sFor (.nm 2) (mI rng1 (mCons (m2 dAdd (m1 (dPF "long") (mVar 0)) (mC (.int 1))) (mNil))) (sFor (.nm 3) (mItems (mN (arg 2 (m_choices 8)) (mCons (m1 dLRng (m1 (dPF "long") (mVar 0))) (mCons (mVar 2) (mNil))))) (sSeq (sSet 4 (mN (c1 dRTuple) (mCons (mComp [5] (.nm 5) (mI rng1 (mCons (m1 (dPF "long") (mVar 0)) (mNil))) (tYesM) (mIf (mT (m2 dIn (mVar 5) (mVar 3))) (m2 dIx (mVar 1) (mVar 5)) (mC .non))) (mNil)))) (sIf (mT (m2 dNotN (mMeth 2 fVer (mVar 0) (mCons (mVar 4) (mNil))) (mC .non))) (sRet (mVar 3)) (sNext))))) (sRet (mBad)))
noncomputable def m_grounds : List D → Out D := defM 2 0 (sSeq (sDrop (mN (arg 2 m_need_word) (mCons (mVar 0) (mCons (mVar 1) (mNil))))) (sRet (mN (arg 2 m_grounds_of) (mCons (m1 dPlan (mVar 0)) (mCons (mVar 1) (mNil))))))
noncomputable def m_most_grounds : List D → Out D := defM 1 4 (sSeq (sDrop (mN (arg 1 m_need_kind) (mCons (mVar 0) (mNil)))) (sSeq (sSet 1 (m1 dPlan (mVar 0))) (sSeq (sSet 2 (mComp [4] (.nm 4) (mItems (mN (arg 1 m_all_words) (mCons (mVar 0) (mNil)))) (tYesM) (mN dTup (mCons (m2 dSub (mC (.int 0)) (mN (c1 dLen) (mCons (mN (arg 2 m_grounds_of) (mCons (mVar 1) (mCons (mVar 4) (mNil)))) (mNil)))) (mCons (mVar 4) (mNil)))))) (sSeq (sTup (.tp [3, 4]) (mN (c1 dMinP) (mCons (mVar 2) (mNil)))) (sRet (mN dTup (mCons (m2 dSub (mC (.int 0)) (mVar 3)) (mCons (mVar 4) (mNil)))))))))
noncomputable def m_depth : List D → Out D := defM 1 1 (sSeq (sDrop (mN (arg 1 m_need_kind) (mCons (mVar 0) (mNil)))) (sSeq (sSet 1 (m1 dPlan (mVar 0))) (sRet (mMeth 2 fDep (mVar 1) (mCons (mMeth 1 fNo (mVar 1) mNil) (mNil))))))
noncomputable def m_decide : List D → Out D := defM 2 4 (sSeq (sDrop (mN (arg 2 m_need_word) (mCons (mVar 0) (mCons (mVar 1) (mNil))))) (sSeq (sSet 2 (m1 dPlan (mVar 0))) (sSeq (sParO 3 4 (mMeth 1 fNo (mVar 2) mNil) ((fun Γ => ((mNil) Γ).bind limO))) (sSeq (sSet 5 (mMeth 2 fBest (mVar 2) (mCons (mVar 3) (mNil)))) (sSeq (sWhile (mT (m2 dNotN (mVar 5) (mC .non))) (sSeq (sApp 4 (mVar 5)) (sSeq (sSet 3 (mMeth 4 fWith (mVar 2) (mCons (mVar 3) (mCons (mVar 5) (mCons (m2 dIx (mVar 1) (mVar 5)) (mNil)))))) (sSet 5 (mMeth 2 fBest (mVar 2) (mCons (mVar 3) (mNil))))))) (sFrz 4 (sRet (mN dTup (mCons (mVar 4) (mCons (mMeth 2 fVer (mVar 2) (mCons (mVar 3) (mNil))) (mNil)))))))))))
noncomputable def m_law : List D → Out D := defM 1 9 (sSeq (sFor (.nm 1) (mI rng1 (mCons (mN (c2 dMax2) (mCons (mC (.int 1)) (mCons (mN (c2 dMin2) (mCons (mC (.int 4)) (mCons (mN (c1 dLen) (mCons (mVar 0) (mNil))) (mNil)))) (mNil)))) (mNil))) (sSeq (sSet 2 (mN (arg 2 m_L_drawn) (mCons (mN (arg 2 m_L_cell) (mCons (mVar 0) (mCons (mVar 1) (mNil)))) (mCons (mVar 1) (mNil))))) (sSeq (sSet 3 (mN (arg 2 m_L_kind) (mCons (mVar 2) (mCons (mC (.int 3)) (mNil))))) (sSeq (sSet 4 (mN (arg 2 m_L_words) (mCons (m2 dIx (mVar 3) (mC (.int 0))) (mCons (m2 dIx (mVar 3) (mC (.int 1))) (mNil))))) (sSeq (sFor (.nm 5) (mItems (mN dLst (mCons (mN dTup (mCons (m2 dIx (mVar 3) (mC (.int 0))) (mCons (m2 dIx (mVar 3) (mC (.int 1))) (mCons (mN dLst (mNil)) (mNil))))) (mCons (mN dTup (mCons (mC (.int 1)) (mCons (mC (.int 1)) (mCons (mN dLst (mCons (mN dTup (mCons (mC (.int 0)) (mNil))) (mNil))) (mNil))))) (mCons (mN dTup (mCons (mC (.int 4)) (mCons (mC (.int 1)) (mCons (mN dLst (mCons (mN dTup (mCons (mC (.int 0)) (mNil))) (mNil))) (mNil))))) (mCons (mN dTup (mCons (mC (.int 2)) (mCons (mC (.int 7)) (mCons (mN dLst (mCons (m2 dMulX (mN dTup (mCons (mC (.int 0)) (mNil))) (mC (.int 7))) (mNil))) (mNil))))) (mCons (mN dTup (mCons (mC (.int 2)) (mCons (mC (.int 1)) (mCons (mN dLst (mCons (mN dTup (mCons (mC (.int 1)) (mNil))) (mCons (mN dTup (mCons (mC (.int 0)) (mNil))) (mNil)))) (mNil))))) (mNil)))))))) (sSeq (sOwn 6 (mCons (mTold ns (mN (arg 1 m_depth) (mCons (mVar 5) (mNil)))) (mNil))) (sSeq (sApp 6 (mTold ns (mN (arg 2 m_decide) (mCons (mVar 5) (mCons (mC .non) (mNil)))))) (sSeq (sApp 6 (mTold ns (mN (arg 2 m_grounds) (mCons (mVar 5) (mCons (mC .non) (mNil)))))) (sSeq (sApp 6 (mTold ns (mN (arg 1 m_most_grounds) (mCons (mVar 5) (mNil))))) (sSeq (sApp 6 (mTold ns (mN (arg 1 m_free_places) (mCons (mVar 5) (mNil))))) (sSeq (sApp 6 (mTold ns (mMkX 2 m_Looker_initX (mCons (mVar 5) (mCons (mC .non) (mNil)))))) (sFrz 6 (sIf (mT (m2 dNe (mVar 6) (m2 dMul (mN dLst (mCons (mC (.str "BadKind")) (mNil))) (mC (.int 6))))) (sRet (mC (.bl false))) (sNext)))))))))) (sSeq (sFor (.nm 5) (mItems (mN dLst (mCons (mC .non) (mCons (mN dTup (mNil)) (mCons (m2 dAdd (m2 dIx (mVar 4) (mC (.int 0))) (mN dTup (mCons (mC (.int 0)) (mNil)))) (mCons (m2 dMulX (mN dTup (mCons (m2 dIx (mVar 3) (mC (.int 0))) (mNil))) (m2 dIx (mVar 3) (mC (.int 1)))) (mCons (mN (c1 dList) (mCons (m2 dIx (mVar 4) (mC (.int 0))) (mNil))) (mCons (m2 dMulX (mN dTup (mCons (mC (.bl true)) (mNil))) (m2 dIx (mVar 3) (mC (.int 1)))) (mNil))))))))) (sSeq (sOwn 6 (mCons (mTold ns (mN (arg 2 m_decide) (mCons (mVar 3) (mCons (mVar 5) (mNil))))) (mNil))) (sSeq (sApp 6 (mTold ns (mN (arg 2 m_grounds) (mCons (mVar 3) (mCons (mVar 5) (mNil)))))) (sSeq (sApp 6 (mTold ns (mMkX 2 m_Looker_initX (mCons (mVar 3) (mCons (mVar 5) (mNil)))))) (sFrz 6 (sIf (mT (m2 dNe (mVar 6) (m2 dMul (mN dLst (mCons (mC (.str "BadWord")) (mNil))) (mC (.int 3))))) (sRet (mC (.bl false))) (sNext))))))) (sSeq (sMk "Looker" 7 2 m_Looker_initN (mCons (mVar 3) (mCons (m2 dIx (mVar 4) (m2 dMod (m2 dDiv (mVar 2) (mC (.int 64))) (mN (c1 dLen) (mCons (mVar 4) (mNil))))) (mNil)))) (sSeq (sFor (.nm 5) (mItems (mN dLst (mCons (m1 dNeg (mC (.int 1))) (mCons (m2 dIx (mVar 3) (mC (.int 1))) (mCons (mC .non) (mCons (mC (.bl true)) (mCons (mC (.str "0")) (mCons (mN dTup (mCons (mC (.int 0)) (mNil))) (mNil))))))))) (sIf (tOrM (mT (m2 dNe (mTold ns (mMR "Looker" 7 "look" 1 m_Looker_lookX (mCons (mVar 5) (mNil)))) (mC (.str "BadPlace")))) (mT (m2 dNe (mMR "Looker" 7 "looked" 0 m_Looker_lookedR mNil) (mN dLst (mNil))))) (sRet (mC (.bl false))) (sNext))) (sSeq (sMW "Looker" 7 "look" 1 m_Looker_lookW (mCons (mC (.int 0)) (mNil)) kDrop) (sSeq (sIf (mT (m2 dNe (mTold ns (mMR "Looker" 7 "look" 1 m_Looker_lookX (mCons (mC (.int 0)) (mNil)))) (mC (.str "BadPlace")))) (sRet (mC (.bl false))) (sNext)) (sSeq (sIf (mT (m2 dNe (mTold ns (mMR "Looker" 7 "redo" 0 m_Looker_redoX mNil)) (mC (.str "Nothing")))) (sRet (mC (.bl false))) (sNext)) (sIf (mT (m2 dNe (mMR "Looker" 7 "looked" 0 m_Looker_lookedR mNil) (mN dLst (mCons (mC (.int 0)) (mNil))))) (sRet (mC (.bl false))) (sNext))))))))))))) (sSeq (sPar 8 9 (mCons (mN dTup (mCons (mC (.int 2)) (mCons (mC (.int 6)) (mCons (mN dLst (mCons (m2 dMulX (mN dTup (mCons (mC (.int 0)) (mNil))) (mC (.int 6))) (mNil))) (mNil))))) (mCons (mN dTup (mCons (mC (.int 2)) (mCons (mC (.int 6)) (mCons (mN (arg 2 m_L_words) (mCons (mC (.int 2)) (mCons (mC (.int 6)) (mNil)))) (mNil))))) (mNil)))) (sSeq (sIf (tOrM (mT (m2 dNe (mN (arg 1 m_depth) (mCons (mVar 8) (mNil))) (mC (.int 6)))) (tOrM (mT (m2 dNe (mN (arg 1 m_depth) (mCons (mVar 9) (mNil))) (mC (.int 0)))) (mT (m2 dNe (mN (arg 2 m_grounds) (mCons (mVar 9) (mCons (m2 dMulX (mN dTup (mCons (mC (.int 0)) (mNil))) (mC (.int 6))) (mNil)))) (mN dTup (mNil)))))) (sRet (mC (.bl false))) (sNext)) (sSeq (sIf (mT (m2 dNe (mN (arg 2 m_grounds) (mCons (mVar 8) (mCons (mN dTup (mCons (mC (.int 0)) (mCons (mC (.int 1)) (mCons (mC (.int 1)) (mCons (mC (.int 0)) (mCons (mC (.int 0)) (mCons (mC (.int 0)) (mNil)))))))) (mNil)))) (mN dTup (mCons (mC (.int 1)) (mNil))))) (sRet (mC (.bl false))) (sNext)) (sRet (mAnd (m2 dEq (mN (arg 1 m_most_grounds) (mCons (mVar 8) (mNil))) (mN dTup (mCons (mC (.int 6)) (mCons (m2 dMulX (mN dTup (mCons (mC (.int 0)) (mNil))) (mC (.int 6))) (mNil))))) (m2 dEq (mN (arg 1 m_free_places) (mCons (mVar 9) (mNil))) (mN dLst (mCons (mC (.int 0)) (mCons (mC (.int 1)) (mCons (mC (.int 2)) (mCons (mC (.int 3)) (mCons (mC (.int 4)) (mCons (mC (.int 5)) (mNil)))))))))))))))
section
variable {P : Program} {w : World} {K : PySem.W.Frag} {mg : Str → Option Value} {base : Heap} {T : Tb}
theorem sc_word : FnScope ["e", "flags", "words", "flag"] ["e"] (defScope (topS 32)) := ⟨rfl, rfl, rfl, by decide +kernel, rfl, by decide +kernel, by decide +kernel⟩
theorem sc_told : FnScope ["deed", "e"] ["deed"] (defScope (topS 33)) := ⟨rfl, rfl, rfl, by decide +kernel, rfl, by decide +kernel, by decide +kernel⟩
theorem w_word {c : Str} {C ad fw : Addr} {oe : Obj} (G : Gm K mg) (gx_BadKind : mg "BadKind" = some (.ref (He.ga K "BadKind"))) (gx_BadWord : mg "BadWord" = some (.ref (He.ga K "BadWord"))) (gx_BadTest : mg "BadTest" = some (.ref (He.ga K "BadTest"))) (gx_BadRow : mg "BadRow" = some (.ref (He.ga K "BadRow"))) (gx_BadTable : mg "BadTable" = some (.ref (He.ga K "BadTable"))) (gx_BadWeb : mg "BadWeb" = some (.ref (He.ga K "BadWeb"))) (gx_NoFar : mg "NoFar" = some (.ref (He.ga K "NoFar"))) (gx_BadPlace : mg "BadPlace" = some (.ref (He.ga K "BadPlace"))) (gx_Nothing : mg "Nothing" = some (.ref (He.ga K "Nothing"))) (W : WordK K mg ns c C) (hz : Zc (.ref C) none oe) (hf : ∃ vs, oe.data = .fields vs) (cdv : Value) (A : Around) (outer : List PySem.Env) (s : Shared) (H : Hp) (hr : L2H.RoomH 0 (A.deeper (envOfC "_law_word" (defScope (topS 32)) s.heap.objs.size fw cdv))) (hot : L2H.Hot1 A (ad, oe)) :
    PSsm (L2H.cxH CX0 P w K mg base ["e", "flags", "words", "flag"] "_law_word" (defScope (topS 32)) fw cdv A outer s H E0 (ad, oe)).nox T E0 (defBody (topS 32)) (m_word (dIsW ns c ad)) := by
  have nd := sc_word.nd
  exact ss_cons (s_st 1 nd (e_lst (a_cons (e_bt (b_isW W hz hf List.mem_cons_self G.isinstance) rfl (a_cons (ev 0) (a_cons (e_fn (gx_BadKind) rfl) (a_nil)))) (a_cons (e_bt (b_isW W hz hf List.mem_cons_self G.isinstance) rfl (a_cons (ev 0) (a_cons (e_fn (gx_BadWord) rfl) (a_nil)))) (a_cons (e_bt (b_isW W hz hf List.mem_cons_self G.isinstance) rfl (a_cons (ev 0) (a_cons (e_fn (gx_BadTest) rfl) (a_nil)))) (a_nil)))))) (ss_cons (s_st 1 nd (e_add (ev 1) (e_lst (a_cons (e_bt (b_isW W hz hf List.mem_cons_self G.isinstance) rfl (a_cons (ev 0) (a_cons (e_fn (gx_BadRow) rfl) (a_nil)))) (a_cons (e_bt (b_isW W hz hf List.mem_cons_self G.isinstance) rfl (a_cons (ev 0) (a_cons (e_fn (gx_BadPlace) rfl) (a_nil)))) (a_nil)))))) (ss_cons (s_st 1 nd (e_add (ev 1) (e_lst (a_cons (e_bt (b_isW W hz hf List.mem_cons_self G.isinstance) rfl (a_cons (ev 0) (a_cons (e_fn (gx_BadTable) rfl) (a_nil)))) (a_cons (e_bt (b_isW W hz hf List.mem_cons_self G.isinstance) rfl (a_cons (ev 0) (a_cons (e_fn (gx_BadWeb) rfl) (a_nil)))) (a_cons (e_bt (b_isW W hz hf List.mem_cons_self G.isinstance) rfl (a_cons (ev 0) (a_cons (e_fn (gx_NoFar) rfl) (a_nil)))) (a_cons (e_bt (b_isW W hz hf List.mem_cons_self G.isinstance) rfl (a_cons (ev 0) (a_cons (e_fn (gx_Nothing) rfl) (a_nil)))) (a_nil)))))))) (ss_cons (s_if (t_w (w_or (t_cm (c_neH hr) (e_bt (b_sumH (hotC hot) G.sum) rfl (a_cons (e_lcH 3 (hotC hot) nd (ev 1) (blkOk_by (by kernel_rfl)) (fun _ _ _ _ _ => g_nm 3 nd) (fun _ _ _ _ _ => e_bt (b_int G.int) rfl (a_cons (ev 3) (a_nil)))) (a_nil))) (e_int) (nomark _)) (w_or1 (t_not (t_val (e_bt (b_isW W hz hf List.mem_cons_self G.isinstance) rfl (a_cons (ev 0) (a_cons (e_ty G.ValueError (by decide +kernel) rfl) (a_nil))))))))) (ss_one (s_ret (e_str))) (ss_nil)) (ss_cons (s_st 2 nd (e_lst (a_cons (e_str) (a_cons (e_str) (a_cons (e_str) (a_cons (e_str) (a_cons (e_str) (a_cons (e_str) (a_cons (e_str) (a_cons (e_str) (a_cons (e_str) (a_nil)))))))))))) (ss_one (s_ret (e_ix (ev 2) (e_index (ev 1) (e_bl)) (fun _ _ => rfl))))))))
theorem v_word : ∀ c ∈ ns, ∀ ad, defM 1 3 (m_word (dIsW ns c ad)) [.opq ad] = .ok (.str c) := by
  intro c hc ad
  have h1 : ∀ y ∈ ns, dIsW ns c ad (.opq ad) (.fn y) = .ok (.bl (decide (y = c))) := fun y hy => if_pos ⟨rfl, hy⟩
  have h2 : dIsW ns c ad (.opq ad) (.ty "ValueError") = .ok (.bl true) := if_pos ⟨rfl, rfl⟩
  exact word_val hc h1 h2
theorem td {fdT fdW : FuncData} {CS : Addr} (G : Gm K mg) (gx_BadKind : mg "BadKind" = some (.ref (He.ga K "BadKind"))) (gx_BadWord : mg "BadWord" = some (.ref (He.ga K "BadWord"))) (gx_BadTest : mg "BadTest" = some (.ref (He.ga K "BadTest"))) (gx_BadRow : mg "BadRow" = some (.ref (He.ga K "BadRow"))) (gx_BadTable : mg "BadTable" = some (.ref (He.ga K "BadTable"))) (gx_BadWeb : mg "BadWeb" = some (.ref (He.ga K "BadWeb"))) (gx_NoFar : mg "NoFar" = some (.ref (He.ga K "NoFar"))) (gx_BadPlace : mg "BadPlace" = some (.ref (He.ga K "BadPlace"))) (gx_Nothing : mg "Nothing" = some (.ref (He.ga K "Nothing"))) (WK : ∀ c ∈ ns, ∀ C, mg c = some (.ref C) → WordK K mg ns c C) (gL : mg "LookError" = some (.ref CS)) (hexm : ∀ c ∈ ns, ∀ C, mg c = some (.ref C) → PySem.W.exmOne K (.ref C) (.ref CS) = some true)
    (FT : FunD K "_law_told" "_law_told" (defArgs (topS 33)) (defBody (topS 33)) (defScope (topS 33)) [] [] (He.ga K "_law_told") fdT) (gT : mg "_law_told" = some (.ref (He.ga K "_law_told")))
    (FW : FunD K "_law_word" "_law_word" (defArgs (topS 32)) (defBody (topS 32)) (defScope (topS 32)) [] [] (He.ga K "_law_word") fdW) (gW : mg "_law_word" = some (.ref (He.ga K "_law_word"))) : Told P w K mg base T ns "LookError" "_law_told" "_law_word" "deed" "e" 0 :=
  ⟨⟨_, CS, _, fdT, fdW, _, _, _, _, _, _, "e", _, _, _, _, _, _, _, _, _, _, ⟨0, 0, 0, 0⟩, fun c ad => m_word (dIsW ns c ad), FT, gT, sc_told, rfl, .inl rfl, rfl, rfl, (fun _ _ _ _ _ _ us hl => match us, hl with | [_], _ => rfl),
    FW, gW, sc_word, (fun _ _ _ _ _ _ us hl => match us, hl with | [_], _ => rfl), gL, hexm, fun c hc C hC ad oe hz hf cdv A outer s H hr hot => w_word G gx_BadKind gx_BadWord gx_BadTest gx_BadRow gx_BadTable gx_BadWeb gx_NoFar gx_BadPlace gx_Nothing (WK c hc C hC) hz hf cdv A outer s H hr hot, v_word⟩⟩
theorem sp_with_letter : FnScope ["self", "part", "place", "letter"] ["self", "part", "place", "letter"] (defScope (clsS (topS 19) 1)) := ⟨rfl, rfl, rfl, by decide +kernel, rfl, by decide +kernel, by decide +kernel⟩
theorem p_with_letter {CP : Addr} (G : Gm K mg) (hTK : T.K = K) (PC : PlC K mg CP)  {a : Addr} {fd : FuncData} (F : FunD K "with_letter" "Plan.with_letter" (defArgs (clsS (topS 19) 1)) (defBody (clsS (topS 19) 1)) (defScope (clsS (topS 19) 1)) [] [] a fd) (hg : Meth K CP "with_letter" a) : MtI P w K mg base T CP 1 "with_letter" 4 fWith := by
    have nd := sp_with_letter.nd
    refine MtI.sub ?_ with_sub
    refine def_okM (k := 0) 4 F sp_with_letter rfl hg (fun _ _ _ _ _ _ us hl => match us, hl with | [_, _, _, _], _ => rfl) (fun cdv A outer s H E hr => ?_)
    exact ss_one (s_ret (e_rcat (e_rcat (e_rslice (ev 1) o_none (o_some (ev 2))) (e_row (a_cons (ev 3) a_nil))) (e_rslice (ev 1) (o_some (e_add (ev 2) e_int)) o_none)))
theorem sp_so_many : FnScope ["self", "part", "place", "some", "letter"] ["self", "part"] (defScope (clsS (topS 19) 2)) := ⟨rfl, rfl, rfl, by decide +kernel, rfl, by decide +kernel, by decide +kernel⟩
theorem p_so_ {CP : Addr} (G : Gm K mg) (hTK : T.K = K) (PC : PlC K mg CP) (M_with_letter : MtI P w K mg base T CP 1 "with_letter" 4 fWith) {a : Addr} {fd : FuncData} (F : FunD K "so_many" "Plan.so_many" (defArgs (clsS (topS 19) 2)) (defBody (clsS (topS 19) 2)) (defScope (clsS (topS 19) 2)) [] [] a fd) (hg : Meth K CP "so_many" a) : ∀ n, MtI P w K mg base T CP (2 + n) "so_many" 2 (m_so n)
  | 0 => MtI.bad (ps := ["self", "part"]) F hg rfl (fun _ _ _ _ _ _ us hl => match us, hl with | [_, _], _ => rfl)
  | n + 1 => by
    have nd := sp_so_many.nd
    have M_so_many := p_so_ G hTK PC M_with_letter F hg n
    refine def_okM (k := 2 + n) 2 F sp_so_many rfl hg (fun _ _ _ _ _ _ us hl => match us, hl with | [_, _], _ => rfl) (fun cdv A outer s H E hr => ?_)
    exact s_memo (F := .cnt) (q6 := ⟨0, 0, 0, 0⟩) rfl ⟨hTK⟩ PC hr (k_if (t_cm (c_notIn hr) (e_non) (e_wk (ev 1))) (k_put (F := .cnt) rfl ⟨hTK⟩ PC hr (e_bt (b_int G.int) rfl (a_cons (e_cm (c_inW hr) (e_wk (ev 1)) (e_pfld PC (ev 0))) (a_nil)))) (k_cons (s_st 2 nd (e_idxN (ev 1) (e_non))) (k_cons (s_setLc [("letter", 4)] (.nm 4) (i := 3) rfl nd rfl rfl (sw_true rfl rfl rfl (by kernel_rfl)) (i_c (i_range1 rfl G.range (a_cons (e_pfld PC (ev 0)) (a_nil)))) (blkOk_by (by kernel_rfl)) (fun _ _ _ _ _ => g_nm 4 nd) (fun _ _ _ _ _ => ts_nil) (fun _ _ _ _ _ => e_meth PC M_so_many (hr.mono (by omega)) passN (ev 0) (a_cons (e_meth PC M_with_letter (hr.mono (by omega)) passN (ev 0) (a_cons (ev 1) (a_cons (ev 2) (a_cons (ev 4) (a_nil))))) (a_nil)))) (k_put (F := .cnt) rfl ⟨hTK⟩ PC hr (e_bt (b_sum rfl G.sum) rfl (a_cons (ev 3) (a_nil)))))))
theorem p_so_many {CP : Addr} (G : Gm K mg) (hTK : T.K = K) (PC : PlC K mg CP) (M_with_letter : MtI P w K mg base T CP 1 "with_letter" 4 fWith) {a : Addr} {fd : FuncData} (F : FunD K "so_many" "Plan.so_many" (defArgs (clsS (topS 19) 2)) (defBody (clsS (topS 19) 2)) (defScope (clsS (topS 19) 2)) [] [] a fd) (hg : Meth K CP "so_many" a) : MtI P w K mg base T CP 9 "so_many" 2 fSo := (p_so_ G hTK PC M_with_letter F hg 7).sub so_sub
theorem sp_all_many : FnScope ["self", "part", "found", "letter"] ["self", "part"] (defScope (clsS (topS 19) 3)) := ⟨rfl, rfl, rfl, by decide +kernel, rfl, by decide +kernel, by decide +kernel⟩
theorem p_all_many {CP : Addr} (G : Gm K mg) (hTK : T.K = K) (PC : PlC K mg CP)  {a : Addr} {fd : FuncData} (F : FunD K "all_many" "Plan.all_many" (defArgs (clsS (topS 19) 3)) (defBody (clsS (topS 19) 3)) (defScope (clsS (topS 19) 3)) [] [] a fd) (hg : Meth K CP "all_many" a) : MtI P w K mg base T CP 1 "all_many" 2 fAll := by
    have nd := sp_all_many.nd
    refine MtI.sub ?_ all_sub
    refine def_okM (k := 0) 2 F sp_all_many rfl hg (fun _ _ _ _ _ _ us hl => match us, hl with | [_, _], _ => rfl) (fun cdv A outer s H E hr => ?_)
    exact ss_cons (s_st 2 nd (e_int)) (ss_cons (s_for (p := .nm 3) (passes_of rfl) rfl (i_seq (e_wk (ev 1))) (g_nm 3 nd) (ss_one (s_if (t_cm (c_isN) (ev 3) (e_non) (nomark _)) (ss_one (s_st 2 nd (e_mul (ev 2) (e_pfld PC (ev 0))))) (ss_nil)))) (ss_one (s_ret (ev 2))))
theorem sp_verdict : FnScope ["self", "part", "many"] ["self", "part"] (defScope (clsS (topS 19) 4)) := ⟨rfl, rfl, rfl, by decide +kernel, rfl, by decide +kernel, by decide +kernel⟩
theorem p_verdict {CP : Addr} (G : Gm K mg) (hTK : T.K = K) (PC : PlC K mg CP) (M_so_many : MtI P w K mg base T CP 9 "so_many" 2 fSo) (M_all_many : MtI P w K mg base T CP 1 "all_many" 2 fAll) {a : Addr} {fd : FuncData} (F : FunD K "verdict" "Plan.verdict" (defArgs (clsS (topS 19) 4)) (defBody (clsS (topS 19) 4)) (defScope (clsS (topS 19) 4)) [] [] a fd) (hg : Meth K CP "verdict" a) : MtI P w K mg base T CP 10 "verdict" 2 fVer := by
    have nd := sp_verdict.nd
    refine MtI.sub ?_ ver_sub
    refine def_okM (k := 9) 2 F sp_verdict rfl hg (fun _ _ _ _ _ _ us hl => match us, hl with | [_, _], _ => rfl) (fun cdv A outer s H E hr => ?_)
    exact ss_cons (s_st 2 nd (e_meth PC M_so_many (hr.mono (by omega)) passE (ev 0) (a_cons (ev 1) (a_nil)))) (ss_cons (s_if (t_cm (c_eq hr) (ev 2) (e_int) (nomark _)) (ss_one (s_ret (e_bl))) (ss_nil)) (ss_one (s_ret (e_if (t_cm (c_eq hr) (ev 2) (e_meth PC M_all_many (hr.mono (by omega)) passE (ev 0) (a_cons (ev 1) (a_nil))) (nomark _)) (e_bl) (e_non)))))
theorem sp_depth_by : FnScope ["self", "part", "place", "letter"] ["self", "part", "place"] (defScope (clsS (topS 19) 5)) := ⟨rfl, rfl, rfl, by decide +kernel, rfl, by decide +kernel, by decide +kernel⟩
theorem p_depth_by_ {CP : Addr} {kd : Nat} {f : List D → Out D} (hkd : 1 ≤ kd) (G : Gm K mg) (hTK : T.K = K) (PC : PlC K mg CP) (M_with_letter : MtI P w K mg base T CP 1 "with_letter" 4 fWith) (M_depth : MtI P w K mg base T CP kd "depth" 2 f) {a : Addr} {fd : FuncData} (F : FunD K "depth_by" "Plan.depth_by" (defArgs (clsS (topS 19) 5)) (defBody (clsS (topS 19) 5)) (defScope (clsS (topS 19) 5)) [] [] a fd) (hg : Meth K CP "depth_by" a) : MtI P w K mg base T CP (kd + 1) "depth_by" 3 (m_depby f) := by
    have nd := sp_depth_by.nd
    refine def_okM (k := kd) 3 F sp_depth_by rfl hg (fun _ _ _ _ _ _ us hl => match us, hl with | [_, _, _], _ => rfl) (fun cdv A outer s H E hr => ?_)
    exact ss_one (s_ret (e_add (e_int) (e_bt (b_max rfl G.max) rfl (a_cons (e_lc [("letter", 3)] (.nm 3) rfl nd (i_c (i_range1 rfl G.range (a_cons (e_pfld PC (ev 0)) (a_nil)))) (blkOk_by (by kernel_rfl)) (fun _ _ _ _ _ => g_nm 3 nd) (fun _ _ _ _ _ => ts_nil) (fun _ _ _ _ _ => e_meth PC M_depth (hr.mono (by omega)) passN (ev 0) (a_cons (e_meth PC M_with_letter (hr.mono (by omega)) passN (ev 0) (a_cons (ev 1) (a_cons (ev 2) (a_cons (ev 3) (a_nil))))) (a_nil)))) (a_nil)))))
theorem sp_depth : FnScope ["self", "part", "some", "place", "letter"] ["self", "part"] (defScope (clsS (topS 19) 6)) := ⟨rfl, rfl, rfl, by decide +kernel, rfl, by decide +kernel, by decide +kernel⟩
theorem p_dep_ {CP : Addr} (G : Gm K mg) (hTK : T.K = K) (PC : PlC K mg CP) (M_with_letter : MtI P w K mg base T CP 1 "with_letter" 4 fWith) (M_verdict : MtI P w K mg base T CP 10 "verdict" 2 fVer) {ab : Addr} {fdb : FuncData} (Fb : FunD K "depth_by" "Plan.depth_by" (defArgs (clsS (topS 19) 5)) (defBody (clsS (topS 19) 5)) (defScope (clsS (topS 19) 5)) [] [] ab fdb) (hgb : Meth K CP "depth_by" ab) {a : Addr} {fd : FuncData} (F : FunD K "depth" "Plan.depth" (defArgs (clsS (topS 19) 6)) (defBody (clsS (topS 19) 6)) (defScope (clsS (topS 19) 6)) [] [] a fd) (hg : Meth K CP "depth" a) : ∀ n, MtI P w K mg base T CP (10 + 2 * n) "depth" 2 (m_dep n)
  | 0 => MtI.bad (ps := ["self", "part"]) F hg rfl (fun _ _ _ _ _ _ us hl => match us, hl with | [_, _], _ => rfl)
  | n + 1 => by
    have nd := sp_depth.nd
    have M_depth := p_dep_ G hTK PC M_with_letter M_verdict Fb hgb F hg n
    have M_depth_by := p_depth_by_ (by omega) G hTK PC M_with_letter M_depth Fb hgb
    refine def_okM (k := 10 + 2 * n + 1) 2 F sp_depth rfl hg (fun _ _ _ _ _ _ us hl => match us, hl with | [_, _], _ => rfl) (fun cdv A outer s H E hr => ?_)
    exact s_memo (F := .dep) (q6 := ⟨0, 0, 0, 0⟩) rfl ⟨hTK⟩ PC hr (k_cons (s_st 2 nd (e_lst (a_nil))) (k_cons (s_if (t_cm (c_isN) (e_meth PC M_verdict (hr.mono (by omega)) passE (ev 0) (a_cons (ev 1) (a_nil))) (e_non) (nomark _)) (ss_one (s_setLc [("place", 3), ("letter", 4)] (.tp [3, 4]) (i := 2) rfl nd rfl rfl (sw_true rfl rfl rfl (by kernel_rfl)) (i_c (i_enumT rfl G.enumerate (a_cons (e_wk (ev 1)) (a_nil)))) (blkOk_by (by kernel_rfl)) (fun _ _ _ _ _ => pg_tup rfl (pgs_cons (g_nm 3 nd) (pgs_cons (g_nm 4 nd) (pgs_nil)))) (fun _ _ _ _ _ => ts_one (t_cm (c_isN) (ev 4) (e_non) (nomark _))) (fun _ _ _ _ _ => e_meth PC M_depth_by (hr.mono (by omega)) passN (ev 0) (a_cons (ev 1) (a_cons (ev 3) (a_nil)))))) (ss_nil)) (k_put (F := .dep) rfl ⟨hTK⟩ PC hr (e_mindef (pe_callBK (cr_minDef hr rfl) rfl G.min (by decide +kernel) (pa_cons (ev 2) pa_nil) (pk_cons (e_int) pk_nil))))))
theorem p_depth {CP : Addr} (G : Gm K mg) (hTK : T.K = K) (PC : PlC K mg CP) (M_with_letter : MtI P w K mg base T CP 1 "with_letter" 4 fWith) (M_verdict : MtI P w K mg base T CP 10 "verdict" 2 fVer) {ab : Addr} {fdb : FuncData} (Fb : FunD K "depth_by" "Plan.depth_by" (defArgs (clsS (topS 19) 5)) (defBody (clsS (topS 19) 5)) (defScope (clsS (topS 19) 5)) [] [] ab fdb) (hgb : Meth K CP "depth_by" ab) {a : Addr} {fd : FuncData} (F : FunD K "depth" "Plan.depth" (defArgs (clsS (topS 19) 6)) (defBody (clsS (topS 19) 6)) (defScope (clsS (topS 19) 6)) [] [] a fd) (hg : Meth K CP "depth" a) : MtI P w K mg base T CP 24 "depth" 2 fDep := (p_dep_ G hTK PC M_with_letter M_verdict Fb hgb F hg 7).sub dep_sub
theorem p_depth_by {CP : Addr} (G : Gm K mg) (hTK : T.K = K) (PC : PlC K mg CP) (M_with_letter : MtI P w K mg base T CP 1 "with_letter" 4 fWith) (M_depth : MtI P w K mg base T CP 24 "depth" 2 fDep) {ab : Addr} {fdb : FuncData} (Fb : FunD K "depth_by" "Plan.depth_by" (defArgs (clsS (topS 19) 5)) (defBody (clsS (topS 19) 5)) (defScope (clsS (topS 19) 5)) [] [] ab fdb) (hgb : Meth K CP "depth_by" ab) : MtI P w K mg base T CP 25 "depth_by" 3 fDepBy := (p_depth_by_ (by omega) G hTK PC M_with_letter M_depth Fb hgb).sub depby_sub
theorem sp_best : FnScope ["self", "part", "place", "letter"] ["self", "part"] (defScope (clsS (topS 19) 7)) := ⟨rfl, rfl, rfl, by decide +kernel, rfl, by decide +kernel, by decide +kernel⟩
theorem p_best {CP : Addr} (G : Gm K mg) (hTK : T.K = K) (PC : PlC K mg CP) (M_verdict : MtI P w K mg base T CP 10 "verdict" 2 fVer) (M_depth_by : MtI P w K mg base T CP 25 "depth_by" 3 fDepBy) (M_depth : MtI P w K mg base T CP 24 "depth" 2 fDep) {a : Addr} {fd : FuncData} (F : FunD K "best" "Plan.best" (defArgs (clsS (topS 19) 7)) (defBody (clsS (topS 19) 7)) (defScope (clsS (topS 19) 7)) [] [] a fd) (hg : Meth K CP "best" a) : MtI P w K mg base T CP 26 "best" 2 fBest := by
    have nd := sp_best.nd
    refine MtI.sub ?_ best_sub
    refine def_okM (k := 25) 2 F sp_best rfl hg (fun _ _ _ _ _ _ us hl => match us, hl with | [_, _], _ => rfl) (fun cdv A outer s H E hr => ?_)
    exact ss_cons (s_if (t_cm (c_notN) (e_meth PC M_verdict (hr.mono (by omega)) passE (ev 0) (a_cons (ev 1) (a_nil))) (e_non) (nomark _)) (ss_one (s_ret (e_non))) (ss_nil)) (ss_cons (s_for (p := .tp [2, 3]) (passes_of rfl) rfl (i_enumT rfl G.enumerate (a_cons (e_wk (ev 1)) (a_nil))) (pg_tup rfl (pgs_cons (g_nm 2 nd) (pgs_cons (g_nm 3 nd) (pgs_nil)))) (ss_one (s_if (t_w (w_and (t_cm (c_isN) (ev 3) (e_non) (nomark _)) (w_and1 (t_cm (c_eq hr) (e_meth PC M_depth_by (hr.mono (by omega)) passE (ev 0) (a_cons (ev 1) (a_cons (ev 2) (a_nil)))) (e_meth PC M_depth (hr.mono (by omega)) passE (ev 0) (a_cons (ev 1) (a_nil))) (nomark _))))) (ss_one (s_ret (ev 2))) (ss_nil)))) (ss_one (s_ret (e_non))))
theorem sp_nothing : FnScope ["self"] ["self"] (defScope (clsS (topS 19) 8)) := ⟨rfl, rfl, rfl, by decide +kernel, rfl, by decide +kernel, by decide +kernel⟩
theorem p_nothing {CP : Addr} (G : Gm K mg) (hTK : T.K = K) (PC : PlC K mg CP)  {a : Addr} {fd : FuncData} (F : FunD K "nothing" "Plan.nothing" (defArgs (clsS (topS 19) 8)) (defBody (clsS (topS 19) 8)) (defScope (clsS (topS 19) 8)) [] [] a fd) (hg : Meth K CP "nothing" a) : MtI P w K mg base T CP 1 "nothing" 1 fNo := by
    have nd := sp_nothing.nd
    refine MtI.sub ?_ no_sub
    refine def_okM (k := 0) 1 F sp_nothing rfl hg (fun _ _ _ _ _ _ us hl => match us, hl with | [_], _ => rfl) (fun cdv A outer s H E hr => ?_)
    exact ss_one (s_ret (e_rmul (e_row (a_cons e_non a_nil)) (e_pfld PC (ev 0))))
theorem sp_init : FnScope ["self", "kind", "words", "word"] ["self", "kind"] (defScope (clsS (topS 19) 0)) := ⟨rfl, rfl, rfl, by decide +kernel, rfl, by decide +kernel, by decide +kernel⟩
theorem p_init {CP a : Addr} {fd : FuncData} (hdict : mg "dict" = none) (c : PlC K mg CP) (hm : Mk K CP a) (F : FunD K "__init__" "Plan.__init__" (defArgs (clsS (topS 19) 0)) (defBody (clsS (topS 19) 0)) (defScope (clsS (topS 19) 0)) [] [] a fd) : MkI P w K mg base T CP 1 := by
  have nd := sp_init.nd
  refine def_okI (k := 0) c hm F sp_init rfl rfl (fun _ _ _ _ _ _ us hl => match us, hl with | [_, _], _ => rfl) (mW := m_iniW) (fun x L n ws hk => iniW_ok hk) (fun cdv A outer s H E hr => ?_)
  exact ss_ini (X := cxOf (L2N.CX P w) P w K mg base ["self", "kind", "words", "word"] "Plan.__init__" (defScope (clsS (topS 19) 0)) a cdv A outer s H E) (T := T) (E := E) (mW := m_iniW) nd (e_bt (b_dictW hr rfl hdict) rfl (a_cons (e_lc [("word", 3)] (.nm 3) rfl nd (i_c (i_seq (ev 2))) (blkOk_by (by kernel_rfl)) (fun _ _ _ _ _ => g_nm 3 nd) (fun _ _ _ _ _ => ts_nil) (fun _ _ _ _ _ => e_tup (a_cons (ev 3) (a_cons e_bl a_nil)))) a_nil)) rfl
theorem sc_Looker_lookW : FnScope ["self", "place"] ["self", "place"] (defScope (clsS (topS 28) 2)) := ⟨rfl, rfl, rfl, by decide +kernel, rfl, by decide +kernel, by decide +kernel⟩
theorem k_Looker_lookW {CP CL_Looker : Addr} (G : Gm K mg) (OC_Looker : ObC K mg "Looker" CL_Looker flds_Looker) {a : Addr} {fd : FuncData} (F : FunD K "look" "Looker.look" (defArgs (clsS (topS 28) 2)) (defBody (clsS (topS 28) 2)) (defScope (clsS (topS 28) 2)) [] [] a fd) (hg : Meth K CL_Looker "look" a) : MtW P w K mg base T "Looker" CL_Looker 1 "look" 1 m_Looker_lookW := by
  have nd := sc_Looker_lookW.nd
  refine def_okW (k := 0) 1 F sc_Looker_lookW rfl hg (fun _ _ _ _ _ _ us hl => match us, hl with | [_, _], _ => rfl) (fun cdv A outer s H E hr => ?_)
  exact w_cons (E := E) (s_if (t_w (w_or (t_val (e_bt (b_isi G.isinstance) rfl (a_cons (ev 1) (a_cons (e_ty G.bool (by decide +kernel) rfl) (a_nil))))) (w_or (t_not (t_val (e_bt (b_isi G.isinstance) rfl (a_cons (ev 1) (a_cons (e_ty G.int (by decide +kernel) rfl) (a_nil)))))) (w_or1 (t_not (t_ch (c_le) (c_lt hr) (e_int) (ev 1) (e_bt (b_len G.len) rfl (a_cons (e_fld 0 OC_Looker) (a_nil))))))))) (ss_one (s_raise (G.x_BadPlace) takesE rfl rfl)) (ss_nil)) (w_cons (E := E) (s_if (t_frz 0 "places" (t_cm (c_in hr) (ev 1) (e_fld 0 OC_Looker))) (ss_one (s_raise (G.x_BadPlace) takesE rfl rfl)) (ss_nil)) (w_cons (E := E) (s_fapp 0 OC_Looker (ev 1)) (w_cons (E := E) (s_setFO 0 OC_Looker (o_lst (a_nil))) (w_ret (E := E) (e_ix (e_fld 0 OC_Looker) (ev 1) (fun _ _ => rfl))))))
theorem sc_Looker_lookX : FnScope ["self", "place"] ["self", "place"] (defScope (clsS (topS 28) 2)) := ⟨rfl, rfl, rfl, by decide +kernel, rfl, by decide +kernel, by decide +kernel⟩
theorem k_Looker_lookX {CP CL_Looker : Addr} (G : Gm K mg) (OC_Looker : ObC K mg "Looker" CL_Looker flds_Looker) {a : Addr} {fd : FuncData} (F : FunD K "look" "Looker.look" (defArgs (clsS (topS 28) 2)) (defBody (clsS (topS 28) 2)) (defScope (clsS (topS 28) 2)) [] [] a fd) (hg : Meth K CL_Looker "look" a) : MtR P w K mg base T "Looker" CL_Looker 1 "look" 1 m_Looker_lookX := by
  have nd := sc_Looker_lookX.nd
  refine def_okR (k := 0) 1 F sc_Looker_lookX rfl hg (fun _ _ _ _ _ _ us hl => match us, hl with | [_, _], _ => rfl) (fun cdv A outer s H E hr => ?_)
  exact ss_cons (s_if (t_w (w_or (t_val (e_bt (b_isi G.isinstance) rfl (a_cons (ev 1) (a_cons (e_ty G.bool (by decide +kernel) rfl) (a_nil))))) (w_or (t_not (t_val (e_bt (b_isi G.isinstance) rfl (a_cons (ev 1) (a_cons (e_ty G.int (by decide +kernel) rfl) (a_nil)))))) (w_or1 (t_not (t_ch (c_le) (c_lt hr) (e_int) (ev 1) (e_bt (b_len G.len) rfl (a_cons (e_fld 0 OC_Looker) (a_nil))))))))) (ss_one (s_raise (G.x_BadPlace) takesE rfl rfl)) (ss_nil)) (ss_cons (s_if (t_frz 0 "places" (t_cm (c_in hr) (ev 1) (e_fld 0 OC_Looker))) (ss_one (s_raise (G.x_BadPlace) takesE rfl rfl)) (ss_nil)) (ss_bad))
theorem sc_Looker_lookedR : FnScope ["self"] ["self"] (defScope (clsS (topS 28) 6)) := ⟨rfl, rfl, rfl, by decide +kernel, rfl, by decide +kernel, by decide +kernel⟩
theorem k_Looker_lookedR {CP CL_Looker : Addr} (G : Gm K mg) (OC_Looker : ObC K mg "Looker" CL_Looker flds_Looker) {a : Addr} {fd : FuncData} (F : FunD K "looked" "Looker.looked" (defArgs (clsS (topS 28) 6)) (defBody (clsS (topS 28) 6)) (defScope (clsS (topS 28) 6)) [] [] a fd) (hg : Meth K CL_Looker "looked" a) : MtR P w K mg base T "Looker" CL_Looker 1 "looked" 0 m_Looker_lookedR := by
  have nd := sc_Looker_lookedR.nd
  refine def_okR (k := 0) 0 F sc_Looker_lookedR rfl hg (fun _ _ _ _ _ _ us hl => match us, hl with | [_], _ => rfl) (fun cdv A outer s H E hr => ?_)
  exact ss_one (s_ret (e_flst 0 OC_Looker G.list))
theorem sc_Looker_redoX : FnScope ["self"] ["self"] (defScope (clsS (topS 28) 4)) := ⟨rfl, rfl, rfl, by decide +kernel, rfl, by decide +kernel, by decide +kernel⟩
theorem k_Looker_redoX {CP CL_Looker : Addr} (G : Gm K mg) (OC_Looker : ObC K mg "Looker" CL_Looker flds_Looker) {a : Addr} {fd : FuncData} (F : FunD K "redo" "Looker.redo" (defArgs (clsS (topS 28) 4)) (defBody (clsS (topS 28) 4)) (defScope (clsS (topS 28) 4)) [] [] a fd) (hg : Meth K CL_Looker "redo" a) : MtR P w K mg base T "Looker" CL_Looker 1 "redo" 0 m_Looker_redoX := by
  have nd := sc_Looker_redoX.nd
  refine def_okR (k := 0) 0 F sc_Looker_redoX rfl hg (fun _ _ _ _ _ _ us hl => match us, hl with | [_], _ => rfl) (fun cdv A outer s H E hr => ?_)
  exact ss_cons (s_if (t_frz 0 "taken" (t_cm (c_eq hr) (e_fld 0 OC_Looker) (e_lst (a_nil)) (nomark _))) (ss_one (s_raise (G.x_Nothing) takesE rfl rfl)) (ss_nil)) (ss_bad)
theorem sc_L_cell : FnScope ["script", "k"] ["script", "k"] (defScope (topS 30)) := ⟨rfl, rfl, rfl, by decide +kernel, rfl, by decide +kernel, by decide +kernel⟩
theorem k_L_cell {CP CL_Looker : Addr} {a : Addr} {fd : FuncData} (G : Gm K mg)  (F : FunD K "_law_cell" "_law_cell" (defArgs (topS 30)) (defBody (topS 30)) (defScope (topS 30)) [] [] a fd) (hg : mg "_law_cell" = some (.ref a)) : FnI P w K mg base T 1 "_law_cell" 2 m_L_cell := by
  have nd := sc_L_cell.nd
  refine def_ok (k := 0) 2 F sc_L_cell rfl hg (fun _ _ _ _ _ _ us hl => match us, hl with | [_, _], _ => rfl) (fun cdv A outer s H E hr => ?_)
  exact ss_cons (s_if (t_cm (c_eq hr) (ev 0) (e_lst (a_nil)) (nomark _)) (ss_one (s_ret (e_mul (ev 1) (e_int)))) (ss_nil)) (ss_one (s_ret (e_add (e_ix (ev 0) (e_mod (ev 1) (e_bt (b_len G.len) rfl (a_cons (ev 0) (a_nil)))) (fun _ _ => rfl)) (e_mul (e_div (ev 1) (e_bt (b_len G.len) rfl (a_cons (ev 0) (a_nil)))) (e_int)))))
theorem sc_L_drawn : FnScope ["cell", "k", "more"] ["cell", "k"] (defScope (topS 31)) := ⟨rfl, rfl, rfl, by decide +kernel, rfl, by decide +kernel, by decide +kernel⟩
theorem k_L_drawn {CP CL_Looker : Addr} {a : Addr} {fd : FuncData} (G : Gm K mg)  (F : FunD K "_law_drawn" "_law_drawn" (defArgs (topS 31)) (defBody (topS 31)) (defScope (topS 31)) [] [] a fd) (hg : mg "_law_drawn" = some (.ref a)) : FnI P w K mg base T 1 "_law_drawn" 2 m_L_drawn := by
  have nd := sc_L_drawn.nd
  refine def_ok (k := 0) 2 F sc_L_drawn rfl hg (fun _ _ _ _ _ _ us hl => match us, hl with | [_, _], _ => rfl) (fun cdv A outer s H E hr => ?_)
  exact ss_cons (s_st 2 nd (e_mod (e_add (e_mul (ev 0) (e_int)) (e_mul (e_add (ev 1) (e_int)) (e_int))) (e_int))) (ss_cons (s_st 2 nd (e_mod (e_mul (ev 2) (ev 2)) (e_int))) (ss_cons (s_st 2 nd (e_mul (e_mul (e_add (e_mod (ev 2) (e_int)) (e_int)) (e_add (e_div (ev 2) (e_int)) (e_int))) (ev 2))) (ss_one (s_ret (e_mod (ev 2) (e_int))))))
theorem sc_L_words : FnScope ["letters", "long", "found", "j", "longer", "word", "letter"] ["letters", "long"] (defScope (topS 34)) := ⟨rfl, rfl, rfl, by decide +kernel, rfl, by decide +kernel, by decide +kernel⟩
theorem k_L_words {CP CL_Looker : Addr} {a : Addr} {fd : FuncData} (G : Gm K mg)  (F : FunD K "_law_words" "_law_words" (defArgs (topS 34)) (defBody (topS 34)) (defScope (topS 34)) [] [] a fd) (hg : mg "_law_words" = some (.ref a)) : FnI P w K mg base T 1 "_law_words" 2 m_L_words := by
  have nd := sc_L_words.nd
  refine def_ok (k := 0) 2 F sc_L_words rfl hg (fun _ _ _ _ _ _ us hl => match us, hl with | [_, _], _ => rfl) (fun cdv A outer s H E hr => ?_)
  exact ss_cons (s_st 2 nd (e_lst (a_cons (e_tup (a_nil)) (a_nil)))) (ss_cons (s_for (p := .nm 3) (passes_of rfl) rfl (i_range1 rfl G.range (a_cons (ev 1) (a_nil))) (g_nm 3 nd) (ss_cons (s_st 4 nd (e_lst (a_nil))) (ss_cons (s_for (p := .nm 5) (passes_of rfl) rfl (i_seq (ev 2)) (g_nm 5 nd) (ss_one (s_st 4 nd (e_add (ev 4) (e_lc [("letter", 6)] (.nm 6) rfl nd (i_c (i_range1 rfl G.range (a_cons (ev 0) (a_nil)))) (blkOk_by (by kernel_rfl)) (fun _ _ _ _ _ => g_nm 6 nd) (fun _ _ _ _ _ => ts_nil) (fun _ _ _ _ _ => e_add (ev 5) (e_tup (a_cons (ev 6) (a_nil))))))))) (ss_one (s_st 2 nd (ev 4)))))) (ss_one (s_ret (ev 2))))
theorem sc_all_words : FnScope ["kind", "found", "turn", "longer", "word", "letter"] ["kind"] (defScope (topS 17)) := ⟨rfl, rfl, rfl, by decide +kernel, rfl, by decide +kernel, by decide +kernel⟩
theorem k_all_words {CP CL_Looker : Addr} {a : Addr} {fd : FuncData} (G : Gm K mg)  (F : FunD K "all_words" "all_words" (defArgs (topS 17)) (defBody (topS 17)) (defScope (topS 17)) [] [] a fd) (hg : mg "all_words" = some (.ref a)) : FnI P w K mg base T 1 "all_words" 1 m_all_words := by
  have nd := sc_all_words.nd
  refine def_ok (k := 0) 1 F sc_all_words rfl hg (fun _ _ _ _ _ _ us hl => match us, hl with | [_], _ => rfl) (fun cdv A outer s H E hr => ?_)
  exact ss_cons (s_st 1 nd (e_lst (a_cons (e_tup (a_nil)) (a_nil)))) (ss_cons (s_for (p := .nm 2) (passes_of rfl) rfl (i_range1 rfl G.range (a_cons (e_ix (ev 0) (e_int) (fun _ _ => rfl)) (a_nil))) (g_nm 2 nd) (ss_cons (s_so 3 nd (a_nil)) (ss_cons (s_for (p := .nm 4) (passes_of rfl) rfl (i_seq (ev 1)) (g_nm 4 nd) (ss_one (s_extd (i := 3) (e_lc [("letter", 5)] (.nm 5) rfl nd (i_c (i_range1 rfl G.range (a_cons (e_ix (ev 0) (e_int) (fun _ _ => rfl)) (a_nil)))) (blkOk_by (by kernel_rfl)) (fun _ _ _ _ _ => g_nm 5 nd) (fun _ _ _ _ _ => ts_nil) (fun _ _ _ _ _ => e_add (ev 4) (e_tup (a_cons (ev 5) (a_nil)))))))) (ss_one (s_frz (i := 3) (s_st 1 nd (ev 3))))))) (ss_one (s_ret (ev 1))))
theorem sc_choices : FnScope ["places", "many", "found", "at", "place", "rest"] ["places", "many"] (defScope (topS 22)) := ⟨rfl, rfl, rfl, by decide +kernel, rfl, by decide +kernel, by decide +kernel⟩
theorem k_choices {a : Addr} {fd : FuncData} (G : Gm K mg)  (F : FunD K "choices" "choices" (defArgs (topS 22)) (defBody (topS 22)) (defScope (topS 22)) [] [] a fd) (hg : mg "choices" = some (.ref a)) : ∀ n, FnI P w K mg base T (1 + n) "choices" 2 (m_choices n)
  | 0 => FnI.bad F hg (ps := ["places", "many"]) (by rfl) (fun _ _ _ _ _ _ us hl => match us, hl with | [_, _], _ => rfl)
  | n + 1 => by
    have nd := sc_choices.nd
    have F_choices := k_choices G  F hg n
    refine def_ok (k := 1 + n) 2 F sc_choices rfl hg (fun _ _ _ _ _ _ us hl => match us, hl with | [_, _], _ => rfl) (fun cdv A outer s H E hr => ?_)
    exact ss_cons (s_if (t_cm (c_eq hr) (ev 1) (e_int) (nomark _)) (ss_one (s_ret (e_lst (a_cons (e_tup (a_nil)) (a_nil))))) (ss_nil)) (ss_cons (s_so 2 nd (a_nil)) (ss_cons (s_for (p := .tp [3, 4]) (passes_of rfl) rfl (i_enum rfl G.enumerate (a_cons (ev 0) (a_nil))) (pg_tup rfl (pgs_cons (g_nm 3 nd) (pgs_cons (g_nm 4 nd) (pgs_nil)))) (ss_one (s_extd (i := 2) (e_lc [("rest", 5)] (.nm 5) rfl nd (i_c (i_seq (e_call F_choices (hr.mono (by omega)) passE rfl (a_cons (e_slice (ev 0) (o_some (e_add (ev 3) (e_int))) (o_none)) (a_cons (e_sub (ev 1) (e_int)) (a_nil)))))) (blkOk_by (by kernel_rfl)) (fun _ _ _ _ _ => g_nm 5 nd) (fun _ _ _ _ _ => ts_nil) (fun _ _ _ _ _ => e_add (e_tup (a_cons (ev 4) (a_nil))) (ev 5)))))) (ss_one (s_frz (i := 2) (s_ret (ev 2))))))
theorem sc_is_word : FnScope ["thing", "letters", "long", "one"] ["thing", "letters", "long"] (defScope (topS 14)) := ⟨rfl, rfl, rfl, by decide +kernel, rfl, by decide +kernel, by decide +kernel⟩
theorem k_is_word {CP CL_Looker : Addr} {a : Addr} {fd : FuncData} (G : Gm K mg)  (F : FunD K "is_word" "is_word" (defArgs (topS 14)) (defBody (topS 14)) (defScope (topS 14)) [] [] a fd) (hg : mg "is_word" = some (.ref a)) : FnI P w K mg base T 1 "is_word" 3 m_is_word := by
  have nd := sc_is_word.nd
  refine def_ok (k := 0) 3 F sc_is_word rfl hg (fun _ _ _ _ _ _ us hl => match us, hl with | [_, _, _], _ => rfl) (fun cdv A outer s H E hr => ?_)
  exact ss_cons (s_if (t_w (w_or (t_not (t_val (e_bt (b_isi G.isinstance) rfl (a_cons (ev 0) (a_cons (e_ty G.tuple (by decide +kernel) rfl) (a_nil)))))) (w_or1 (t_cm (c_ne hr) (e_bt (b_len G.len) rfl (a_cons (ev 0) (a_nil))) (ev 2) (nomark _))))) (ss_one (s_ret (e_bl))) (ss_nil)) (ss_one (s_ret (e_bt (b_all rfl G.all) rfl (a_cons (e_lc [("one", 3)] (.nm 3) rfl nd (i_c (i_seq (ev 0))) (blkOk_by (by kernel_rfl)) (fun _ _ _ _ _ => g_nm 3 nd) (fun _ _ _ _ _ => ts_nil) (fun _ _ _ _ _ => e_and (e_bt (b_isi G.isinstance) rfl (a_cons (ev 3) (a_cons (e_ty G.int (by decide +kernel) rfl) (a_nil)))) (e_and (e_not (e_bt (b_isi G.isinstance) rfl (a_cons (ev 3) (a_cons (e_ty G.bool (by decide +kernel) rfl) (a_nil))))) (e_one (e_ch (c_le) (c_lt hr) (e_int) (ev 3) (ev 1)))))) (a_nil)))))
theorem sc_L_kind : FnScope ["more", "most", "letters", "long", "row", "way", "some", "j", "word"] ["more", "most"] (defScope (topS 35)) := ⟨rfl, rfl, rfl, by decide +kernel, rfl, by decide +kernel, by decide +kernel⟩
theorem k_L_kind {CP CL_Looker : Addr} {a : Addr} {fd : FuncData} (G : Gm K mg) (F_L_drawn : FnI P w K mg base T 1 "_law_drawn" 2 m_L_drawn) (F_L_words : FnI P w K mg base T 1 "_law_words" 2 m_L_words) (F : FunD K "_law_kind" "_law_kind" (defArgs (topS 35)) (defBody (topS 35)) (defScope (topS 35)) [] [] a fd) (hg : mg "_law_kind" = some (.ref a)) : FnI P w K mg base T 2 "_law_kind" 2 m_L_kind := by
  have nd := sc_L_kind.nd
  refine def_ok (k := 1) 2 F sc_L_kind rfl hg (fun _ _ _ _ _ _ us hl => match us, hl with | [_, _], _ => rfl) (fun cdv A outer s H E hr => ?_)
  exact ss_cons (s_st 2 nd (e_add (e_int) (e_bt (b_int G.int) rfl (a_cons (e_cm (c_eq hr) (e_mod (ev 0) (e_int)) (e_int) (nomark _)) (a_nil))))) (ss_cons (s_st 3 nd (e_add (e_int) (e_mod (e_div (ev 0) (e_int)) (e_ix (e_lst (a_cons (ev 1) (a_cons (e_sub (ev 1) (e_int)) (a_nil)))) (e_sub (ev 2) (e_int)) (fun _ _ => rfl))))) (ss_cons (s_st 4 nd (e_call F_L_words (hr.mono (by decide)) passE rfl (a_cons (ev 2) (a_cons (ev 3) (a_nil))))) (ss_cons (s_st 5 nd (e_mod (e_div (ev 0) (e_int)) (e_int))) (ss_cons (s_setLc [("j", 7), ("word", 8)] (.tp [7, 8]) (i := 6) rfl nd rfl rfl (sw_true rfl rfl rfl (by kernel_rfl)) (i_c (i_enum rfl G.enumerate (a_cons (ev 4) (a_nil)))) (blkOk_by (by kernel_rfl)) (fun _ _ _ _ _ => pg_tup rfl (pgs_cons (g_nm 7 nd) (pgs_cons (g_nm 8 nd) (pgs_nil)))) (fun _ _ _ _ _ => ts_one (t_cm (c_eq hr) (e_mod (e_call F_L_drawn (hr.mono (by decide)) passN rfl (a_cons (ev 0) (a_cons (ev 7) (a_nil)))) (e_ix (e_lst (a_cons (e_int) (a_cons (e_int) (a_cons (e_int) (a_nil))))) (e_mod (e_div (ev 0) (e_int)) (e_int)) (fun _ _ => rfl))) (e_int) (nomark _))) (fun _ _ _ _ _ => ev 8)) (ss_cons (s_if (t_cm (c_eq hr) (ev 5) (e_int) (nomark _)) (ss_one (s_st 6 nd (e_lst (a_cons (e_ix (ev 4) (e_mod (e_div (ev 0) (e_int)) (e_bt (b_len G.len) rfl (a_cons (ev 4) (a_nil)))) (fun _ _ => rfl)) (a_nil))))) (ss_nil)) (ss_cons (s_if (t_cm (c_eq hr) (ev 5) (e_int) (nomark _)) (ss_one (s_setLc [("word", 8)] (.nm 8) (i := 6) rfl nd rfl rfl (sw_true rfl rfl rfl (by kernel_rfl)) (i_c (i_seq (ev 4))) (blkOk_by (by kernel_rfl)) (fun _ _ _ _ _ => g_nm 8 nd) (fun _ _ _ _ _ => ts_one (t_cm (c_eq hr) (e_lenset rfl rfl rfl G.len G.set (ev 8)) (e_int) (nomark _))) (fun _ _ _ _ _ => ev 8))) (ss_nil)) (ss_cons (s_if (t_cm (c_eq hr) (ev 5) (e_int) (nomark _)) (ss_one (s_setLc [("word", 8)] (.nm 8) (i := 6) rfl nd rfl rfl (sw_true rfl rfl rfl (by kernel_rfl)) (i_c (i_seq (ev 4))) (blkOk_by (by kernel_rfl)) (fun _ _ _ _ _ => g_nm 8 nd) (fun _ _ _ _ _ => ts_one (t_cm (c_eq hr) (e_mod (e_bt (b_sumT rfl G.sum) rfl (a_cons (ev 8) (a_nil))) (e_int)) (e_mod (e_div (ev 0) (e_int)) (e_int)) (nomark _))) (fun _ _ _ _ _ => ev 8))) (ss_nil)) (ss_cons (s_if (t_cm (c_eq hr) (ev 5) (e_int) (nomark _)) (ss_one (s_setLc [("word", 8)] (.nm 8) (i := 6) rfl nd rfl rfl (sw_true rfl rfl rfl (by kernel_rfl)) (i_c (i_seq (ev 4))) (blkOk_by (by kernel_rfl)) (fun _ _ _ _ _ => g_nm 8 nd) (fun _ _ _ _ _ => ts_one (t_cm (c_eq hr) (e_bt (b_list G.list) rfl (a_cons (ev 8) (a_nil))) (e_bt (b_sortedT G.sorted) rfl (a_cons (ev 8) (a_nil))) (nomark _))) (fun _ _ _ _ _ => ev 8))) (ss_nil)) (ss_cons (s_if (t_cm (c_eq hr) (ev 6) (e_lst (a_nil)) (nomark _)) (ss_one (s_st 6 nd (e_lst (a_cons (e_ix (ev 4) (e_int) (fun _ _ => rfl)) (a_nil))))) (ss_nil)) (ss_one (s_ret (e_tup (a_cons (ev 2) (a_cons (ev 3) (a_cons (ev 6) (a_nil))))))))))))))))
theorem sc_need_kind : FnScope ["kind", "letters", "long", "words", "good", "word", "one", "other"] ["kind"] (defScope (topS 15)) := ⟨rfl, rfl, rfl, by decide +kernel, rfl, by decide +kernel, by decide +kernel⟩
theorem k_need_kind {CP CL_Looker : Addr} {a : Addr} {fd : FuncData} (G : Gm K mg) (F_is_word : FnI P w K mg base T 1 "is_word" 3 m_is_word) (F : FunD K "need_kind" "need_kind" (defArgs (topS 15)) (defBody (topS 15)) (defScope (topS 15)) [] [] a fd) (hg : mg "need_kind" = some (.ref a)) : FnI P w K mg base T 2 "need_kind" 1 m_need_kind := by
  have nd := sc_need_kind.nd
  refine def_ok (k := 1) 1 F sc_need_kind rfl hg (fun _ _ _ _ _ _ us hl => match us, hl with | [_], _ => rfl) (fun cdv A outer s H E hr => ?_)
  exact ss_cons (s_tup (p := .tp [1, 2, 3]) (ps_asg (ev 0) (pg_tup rfl (pgs_cons (g_nm 1 nd) (pgs_cons (g_nm 2 nd) (pgs_cons (g_nm 3 nd) (pgs_nil))))))) (ss_cons (s_st 4 nd (e_and (e_cm (c_in hr) (ev 1) (e_tup (a_cons (e_int) (a_cons (e_int) (a_nil))))) (e_and (e_ch (c_le) (c_le) (e_int) (ev 2) (e_gint G.c_MOST_LONG rfl)) (e_one (e_cm (c_gt) (e_bt (b_len G.len) rfl (a_cons (ev 3) (a_nil))) (e_int) (nomark _)))))) (ss_cons (s_if (t_w (w_or (t_not (t_val (ev 4))) (w_or1 (t_not (t_val (e_bt (b_all rfl G.all) rfl (a_cons (e_lc [("word", 5)] (.nm 5) rfl nd (i_c (i_seq (ev 3))) (blkOk_by (by kernel_rfl)) (fun _ _ _ _ _ => g_nm 5 nd) (fun _ _ _ _ _ => ts_nil) (fun _ _ _ _ _ => e_call F_is_word (hr.mono (by decide)) passN rfl (a_cons (ev 5) (a_cons (ev 1) (a_cons (ev 2) (a_nil)))))) (a_nil)))))))) (ss_one (s_raise (G.x_BadKind) takesE rfl rfl)) (ss_nil)) (ss_one (s_if (t_not (t_val (e_bt (b_all rfl G.all) rfl (a_cons (e_lc [("one", 6), ("other", 7)] (.tp [6, 7]) rfl nd (i_c (i_zip rfl G.zip (a_cons (ev 3) (a_cons (e_slice (ev 3) (o_some (e_int)) (o_none)) (a_nil))))) (blkOk_by (by kernel_rfl)) (fun _ _ _ _ _ => pg_tup rfl (pgs_cons (g_nm 6 nd) (pgs_cons (g_nm 7 nd) (pgs_nil)))) (fun _ _ _ _ _ => ts_nil) (fun _ _ _ _ _ => e_cm (c_lt hr) (ev 6) (ev 7) (nomark _))) (a_nil))))) (ss_one (s_raise (G.x_BadKind) takesE rfl rfl)) (ss_nil)))))
theorem sc_free_places : FnScope ["kind", "words", "found", "place", "others", "word", "letter"] ["kind"] (defScope (topS 26)) := ⟨rfl, rfl, rfl, by decide +kernel, rfl, by decide +kernel, by decide +kernel⟩
theorem k_free_places {CP CL_Looker : Addr} {a : Addr} {fd : FuncData} (G : Gm K mg) (F_need_kind : FnI P w K mg base T 2 "need_kind" 1 m_need_kind) (F : FunD K "free_places" "free_places" (defArgs (topS 26)) (defBody (topS 26)) (defScope (topS 26)) [] [] a fd) (hg : mg "free_places" = some (.ref a)) : FnI P w K mg base T 3 "free_places" 1 m_free_places := by
  have nd := sc_free_places.nd
  refine def_ok (k := 2) 1 F sc_free_places rfl hg (fun _ _ _ _ _ _ us hl => match us, hl with | [_], _ => rfl) (fun cdv A outer s H E hr => ?_)
  exact ss_cons (s_expr (e_call F_need_kind (hr.mono (by decide)) passE rfl (a_cons (ev 0) (a_nil)))) (ss_cons (s_st 1 nd (e_bt (b_dictW hr rfl G.dict) rfl (a_cons (e_lc [("word", 5)] (.nm 5) rfl nd (i_c (i_seq (e_ix (ev 0) (e_int) (fun _ _ => rfl)))) (blkOk_by (by kernel_rfl)) (fun _ _ _ _ _ => g_nm 5 nd) (fun _ _ _ _ _ => ts_nil) (fun _ _ _ _ _ => e_tup (a_cons (ev 5) (a_cons (e_bl) (a_nil))))) (a_nil)))) (ss_cons (s_so 2 nd (a_nil)) (ss_cons (s_for (p := .nm 3) (passes_of rfl) rfl (i_range1 rfl G.range (a_cons (e_ix (ev 0) (e_int) (fun _ _ => rfl)) (a_nil))) (g_nm 3 nd) (ss_cons (s_so 4 nd (a_nil)) (ss_cons (s_for (p := .nm 5) (passes_of rfl) rfl (i_seq (e_ix (ev 0) (e_int) (fun _ _ => rfl))) (g_nm 5 nd) (ss_one (s_extd (i := 4) (e_lc [("letter", 6)] (.nm 6) rfl nd (i_c (i_range1 rfl G.range (a_cons (e_ix (ev 0) (e_int) (fun _ _ => rfl)) (a_nil)))) (blkOk_by (by kernel_rfl)) (fun _ _ _ _ _ => g_nm 6 nd) (fun _ _ _ _ _ => ts_nil) (fun _ _ _ _ _ => e_add (e_add (e_slice (ev 5) (o_none) (o_some (ev 3))) (e_tup (a_cons (ev 6) (a_nil)))) (e_slice (ev 5) (o_some (e_add (ev 3) (e_int))) (o_none))))))) (ss_one (s_if (t_val (e_bt (b_all rfl G.all) rfl (a_cons (e_lc [("word", 5)] (.nm 5) rfl nd (i_own 4) (blkOk_by (by kernel_rfl)) (fun _ _ _ _ _ => g_nm 5 nd) (fun _ _ _ _ _ => ts_nil) (fun _ _ _ _ _ => e_cm (c_inW hr) (ev 5) (ev 1))) (a_nil)))) (ss_one (s_app (i := 2) (ev 3))) (ss_nil)))))) (ss_one (s_frz (i := 2) (s_ret (ev 2)))))))
theorem sc_need_word : FnScope ["kind", "word"] ["kind", "word"] (defScope (topS 16)) := ⟨rfl, rfl, rfl, by decide +kernel, rfl, by decide +kernel, by decide +kernel⟩
theorem k_need_word {CP CL_Looker : Addr} {a : Addr} {fd : FuncData} (G : Gm K mg) (F_is_word : FnI P w K mg base T 1 "is_word" 3 m_is_word) (F_need_kind : FnI P w K mg base T 2 "need_kind" 1 m_need_kind) (F : FunD K "need_word" "need_word" (defArgs (topS 16)) (defBody (topS 16)) (defScope (topS 16)) [] [] a fd) (hg : mg "need_word" = some (.ref a)) : FnI P w K mg base T 3 "need_word" 2 m_need_word := by
  have nd := sc_need_word.nd
  refine def_ok (k := 2) 2 F sc_need_word rfl hg (fun _ _ _ _ _ _ us hl => match us, hl with | [_, _], _ => rfl) (fun cdv A outer s H E hr => ?_)
  exact ss_cons (s_expr (e_call F_need_kind (hr.mono (by decide)) passE rfl (a_cons (ev 0) (a_nil)))) (ss_one (s_if (t_not (t_val (e_call F_is_word (hr.mono (by decide)) passE rfl (a_cons (ev 1) (a_cons (e_ix (ev 0) (e_int) (fun _ _ => rfl)) (a_cons (e_ix (ev 0) (e_int) (fun _ _ => rfl)) (a_nil))))))) (ss_one (s_raise (G.x_BadWord) takesE rfl rfl)) (ss_nil)))
theorem sc_Looker_initN : FnScope ["self", "kind", "word"] ["self", "kind", "word"] (defScope (clsS (topS 28) 0)) := ⟨rfl, rfl, rfl, by decide +kernel, rfl, by decide +kernel, by decide +kernel⟩
theorem k_Looker_initN {CP CL_Looker : Addr} (G : Gm K mg) (PC : PlC K mg CP) (OC_Looker : ObC K mg "Looker" CL_Looker flds_Looker) (F_need_word : FnI P w K mg base T 3 "need_word" 2 m_need_word) (M_init : MkI P w K mg base T CP 1) {a : Addr} {fd : FuncData} (F : FunD K "__init__" "Looker.__init__" (defArgs (clsS (topS 28) 0)) (defBody (clsS (topS 28) 0)) (defScope (clsS (topS 28) 0)) [] [] a fd) (hm : Mk K CL_Looker a) : MkW P w K mg base T "Looker" CL_Looker 4 2 m_Looker_initN := by
  have nd := sc_Looker_initN.nd
  refine def_okN (k := 3) 2 hm F sc_Looker_initN rfl (fun _ _ _ _ _ _ us hl => match us, hl with | [_, _, _], _ => rfl) (fun cdv A outer s H E hr => ?_)
  exact w_cons (E := E) (s_expr (e_call F_need_word (hr.mono (by decide)) passE rfl (a_cons (ev 1) (a_cons (ev 2) (a_nil))))) (w_cons (E := E) (s_setF 0 OC_Looker (e_plan PC M_init (hr.mono (by omega)) passE rfl (e_tup (a_cons (e_ix (ev 1) (e_int) (fun _ _ => rfl)) (a_cons (e_ix (ev 1) (e_int) (fun _ _ => rfl)) (a_cons (e_bt (b_list G.list) rfl (a_cons (e_ix (ev 1) (e_int) (fun _ _ => rfl)) (a_nil))) (a_nil))))))) (w_cons (E := E) (s_setF 0 OC_Looker (ev 2)) (w_cons (E := E) (s_setFO 0 OC_Looker (o_lst (a_nil))) (w_cons (E := E) (s_setFO 0 OC_Looker (o_lst (a_nil))) (w_end)))))
theorem sc_Looker_initX : FnScope ["self", "kind", "word"] ["self", "kind", "word"] (defScope (clsS (topS 28) 0)) := ⟨rfl, rfl, rfl, by decide +kernel, rfl, by decide +kernel, by decide +kernel⟩
theorem k_Looker_initX {CP CL_Looker : Addr} (G : Gm K mg) (OC_Looker : ObC K mg "Looker" CL_Looker flds_Looker) (F_need_word : FnI P w K mg base T 3 "need_word" 2 m_need_word) {a : Addr} {fd : FuncData} (F : FunD K "__init__" "Looker.__init__" (defArgs (clsS (topS 28) 0)) (defBody (clsS (topS 28) 0)) (defScope (clsS (topS 28) 0)) [] [] a fd) (hm : Mk K CL_Looker a) : MkR P w K mg base T "Looker" CL_Looker 4 2 m_Looker_initX := by
  have nd := sc_Looker_initX.nd
  refine def_okNR (k := 3) 2 hm F sc_Looker_initX rfl (fun _ _ _ _ _ _ us hl => match us, hl with | [_, _, _], _ => rfl) (fun cdv A outer s H E hr => ?_)
  exact ss_cons (s_expr (e_call F_need_word (hr.mono (by decide)) passE rfl (a_cons (ev 1) (a_cons (ev 2) (a_nil))))) (ss_bad)
theorem sc_grounds_of : FnScope ["plan", "word", "many", "some", "part", "place"] ["plan", "word"] (defScope (topS 23)) := ⟨rfl, rfl, rfl, by decide +kernel, rfl, by decide +kernel, by decide +kernel⟩
theorem k_grounds_of {CP CL_Looker : Addr} {a : Addr} {fd : FuncData} (G : Gm K mg) (PC : PlC K mg CP) (F_choices : FnI P w K mg base T 9 "choices" 2 (m_choices 8)) (M_verdict : MtI P w K mg base T CP 10 "verdict" 2 fVer) (F : FunD K "grounds_of" "grounds_of" (defArgs (topS 23)) (defBody (topS 23)) (defScope (topS 23)) [] [] a fd) (hg : mg "grounds_of" = some (.ref a)) : FnI P w K mg base T 11 "grounds_of" 2 m_grounds_of := by
  have nd := sc_grounds_of.nd
  refine def_ok (k := 10) 2 F sc_grounds_of rfl hg (fun _ _ _ _ _ _ us hl => match us, hl with | [_, _], _ => rfl) (fun cdv A outer s H E hr => ?_)
  exact ss_cons (s_for (p := .nm 2) (passes_of rfl) rfl (i_range1 rfl G.range (a_cons (e_add (e_pfld PC (ev 0)) (e_int)) (a_nil))) (g_nm 2 nd) (ss_one (s_for (p := .nm 3) (passes_of rfl) rfl (i_seq (e_call F_choices (hr.mono (by decide)) passE rfl (a_cons (e_listRg rfl G.list G.range rfl rfl (e_pfld PC (ev 0))) (a_cons (ev 2) (a_nil))))) (g_nm 3 nd) (ss_cons (s_st 4 nd (e_bt (b_rtuple G.tuple) rfl (a_cons (e_lc [("place", 5)] (.nm 5) rfl nd (i_c (i_range1 rfl G.range (a_cons (e_pfld PC (ev 0)) (a_nil)))) (blkOk_by (by kernel_rfl)) (fun _ _ _ _ _ => g_nm 5 nd) (fun _ _ _ _ _ => ts_nil) (fun _ _ _ _ _ => e_if (t_cm (c_in hr) (ev 5) (ev 3)) (e_ix (ev 1) (ev 5) (fun _ _ => rfl)) (e_non))) (a_nil)))) (ss_one (s_if (t_cm (c_notN) (e_meth PC M_verdict (hr.mono (by omega)) passE (ev 0) (a_cons (ev 4) (a_nil))) (e_non) (nomark _)) (ss_one (s_ret (ev 3))) (ss_nil))))))) (ss_one (s_ret (e_no)))
theorem sc_grounds : FnScope ["kind", "word"] ["kind", "word"] (defScope (topS 24)) := ⟨rfl, rfl, rfl, by decide +kernel, rfl, by decide +kernel, by decide +kernel⟩
theorem k_grounds {CP CL_Looker : Addr} {a : Addr} {fd : FuncData} (G : Gm K mg) (PC : PlC K mg CP) (F_need_word : FnI P w K mg base T 3 "need_word" 2 m_need_word) (F_grounds_of : FnI P w K mg base T 11 "grounds_of" 2 m_grounds_of) (M_init : MkI P w K mg base T CP 1) (F : FunD K "grounds" "grounds" (defArgs (topS 24)) (defBody (topS 24)) (defScope (topS 24)) [] [] a fd) (hg : mg "grounds" = some (.ref a)) : FnI P w K mg base T 12 "grounds" 2 m_grounds := by
  have nd := sc_grounds.nd
  refine def_ok (k := 11) 2 F sc_grounds rfl hg (fun _ _ _ _ _ _ us hl => match us, hl with | [_, _], _ => rfl) (fun cdv A outer s H E hr => ?_)
  exact ss_cons (s_expr (e_call F_need_word (hr.mono (by decide)) passE rfl (a_cons (ev 0) (a_cons (ev 1) (a_nil))))) (ss_one (s_ret (e_call F_grounds_of (hr.mono (by decide)) passE rfl (a_cons (e_plan PC M_init (hr.mono (by omega)) passE rfl (ev 0)) (a_cons (ev 1) (a_nil))))))
theorem sc_most_grounds : FnScope ["kind", "plan", "rows", "many", "word"] ["kind"] (defScope (topS 25)) := ⟨rfl, rfl, rfl, by decide +kernel, rfl, by decide +kernel, by decide +kernel⟩
theorem k_most_grounds {CP CL_Looker : Addr} {a : Addr} {fd : FuncData} (G : Gm K mg) (PC : PlC K mg CP) (F_need_kind : FnI P w K mg base T 2 "need_kind" 1 m_need_kind) (F_all_words : FnI P w K mg base T 1 "all_words" 1 m_all_words) (F_grounds_of : FnI P w K mg base T 11 "grounds_of" 2 m_grounds_of) (M_init : MkI P w K mg base T CP 1) (F : FunD K "most_grounds" "most_grounds" (defArgs (topS 25)) (defBody (topS 25)) (defScope (topS 25)) [] [] a fd) (hg : mg "most_grounds" = some (.ref a)) : FnI P w K mg base T 12 "most_grounds" 1 m_most_grounds := by
  have nd := sc_most_grounds.nd
  refine def_ok (k := 11) 1 F sc_most_grounds rfl hg (fun _ _ _ _ _ _ us hl => match us, hl with | [_], _ => rfl) (fun cdv A outer s H E hr => ?_)
  exact ss_cons (s_expr (e_call F_need_kind (hr.mono (by decide)) passE rfl (a_cons (ev 0) (a_nil)))) (ss_cons (s_st 1 nd (e_plan PC M_init (hr.mono (by omega)) passE rfl (ev 0))) (ss_cons (s_setLc [("word", 4)] (.nm 4) (i := 2) rfl nd rfl rfl (sw_true rfl rfl rfl (by kernel_rfl)) (i_c (i_seq (e_call F_all_words (hr.mono (by decide)) passE rfl (a_cons (ev 0) (a_nil))))) (blkOk_by (by kernel_rfl)) (fun _ _ _ _ _ => g_nm 4 nd) (fun _ _ _ _ _ => ts_nil) (fun _ _ _ _ _ => e_tup (a_cons (e_sub (e_int) (e_bt (b_len G.len) rfl (a_cons (e_call F_grounds_of (hr.mono (by decide)) passN rfl (a_cons (ev 1) (a_cons (ev 4) (a_nil)))) (a_nil)))) (a_cons (ev 4) (a_nil))))) (ss_cons (s_tup (p := .tp [3, 4]) (ps_asg (e_bt (b_minP hr rfl G.min) rfl (a_cons (ev 2) (a_nil))) (pg_tup rfl (pgs_cons (g_nm 3 nd) (pgs_cons (g_nm 4 nd) (pgs_nil)))))) (ss_one (s_ret (e_tup (a_cons (e_sub (e_int) (ev 3)) (a_cons (ev 4) (a_nil)))))))))
theorem sc_depth : FnScope ["kind", "plan"] ["kind"] (defScope (topS 20)) := ⟨rfl, rfl, rfl, by decide +kernel, rfl, by decide +kernel, by decide +kernel⟩
theorem k_depth {CP CL_Looker : Addr} {a : Addr} {fd : FuncData} (G : Gm K mg) (PC : PlC K mg CP) (F_need_kind : FnI P w K mg base T 2 "need_kind" 1 m_need_kind) (M_init : MkI P w K mg base T CP 1) (M_depth : MtI P w K mg base T CP 24 "depth" 2 fDep) (M_nothing : MtI P w K mg base T CP 1 "nothing" 1 fNo) (F : FunD K "depth" "depth" (defArgs (topS 20)) (defBody (topS 20)) (defScope (topS 20)) [] [] a fd) (hg : mg "depth" = some (.ref a)) : FnI P w K mg base T 25 "depth" 1 m_depth := by
  have nd := sc_depth.nd
  refine def_ok (k := 24) 1 F sc_depth rfl hg (fun _ _ _ _ _ _ us hl => match us, hl with | [_], _ => rfl) (fun cdv A outer s H E hr => ?_)
  exact ss_cons (s_expr (e_call F_need_kind (hr.mono (by decide)) passE rfl (a_cons (ev 0) (a_nil)))) (ss_cons (s_st 1 nd (e_plan PC M_init (hr.mono (by omega)) passE rfl (ev 0))) (ss_one (s_ret (e_meth PC M_depth (hr.mono (by omega)) passE (ev 1) (a_cons (e_meth0 PC M_nothing (hr.mono (by omega)) passE (ev 1)) (a_nil))))))
theorem sc_decide : FnScope ["kind", "word", "plan", "part", "found", "place"] ["kind", "word"] (defScope (topS 21)) := ⟨rfl, rfl, rfl, by decide +kernel, rfl, by decide +kernel, by decide +kernel⟩
theorem k_decide {CP CL_Looker : Addr} {a : Addr} {fd : FuncData} (G : Gm K mg) (PC : PlC K mg CP) (F_need_word : FnI P w K mg base T 3 "need_word" 2 m_need_word) (M_init : MkI P w K mg base T CP 1) (M_best : MtI P w K mg base T CP 26 "best" 2 fBest) (M_nothing : MtI P w K mg base T CP 1 "nothing" 1 fNo) (M_verdict : MtI P w K mg base T CP 10 "verdict" 2 fVer) (M_with_letter : MtI P w K mg base T CP 1 "with_letter" 4 fWith) (F : FunD K "decide" "decide" (defArgs (topS 21)) (defBody (topS 21)) (defScope (topS 21)) [] [] a fd) (hg : mg "decide" = some (.ref a)) : FnI P w K mg base T 27 "decide" 2 m_decide := by
  have nd := sc_decide.nd
  refine def_ok (k := 26) 2 F sc_decide rfl hg (fun _ _ _ _ _ _ us hl => match us, hl with | [_, _], _ => rfl) (fun cdv A outer s H E hr => ?_)
  exact ss_cons (s_expr (e_call F_need_word (hr.mono (by decide)) passE rfl (a_cons (ev 0) (a_cons (ev 1) (a_nil))))) (ss_cons (s_st 2 nd (e_plan PC M_init (hr.mono (by omega)) passE rfl (ev 0))) (ss_cons (s_parO 3 4 nd rfl (e_meth0 PC M_nothing (hr.mono (by omega)) passE (ev 2)) (o_lst (a_nil))) (ss_cons (s_st 5 nd (e_meth PC M_best (hr.mono (by omega)) passE (ev 2) (a_cons (ev 3) (a_nil)))) (ss_cons (s_while (passes_of rfl) (t_cm (c_notN) (ev 5) (e_non) (nomark _)) (ss_cons (s_app (i := 4) (ev 5)) (ss_cons (s_st 3 nd (e_meth PC M_with_letter (hr.mono (by omega)) passE (ev 2) (a_cons (ev 3) (a_cons (ev 5) (a_cons (e_ix (ev 1) (ev 5) (fun _ _ => rfl)) (a_nil)))))) (ss_one (s_st 5 nd (e_meth PC M_best (hr.mono (by omega)) passE (ev 2) (a_cons (ev 3) (a_nil)))))))) (ss_one (s_frz (i := 4) (s_ret (e_tup (a_cons (ev 4) (a_cons (e_meth PC M_verdict (hr.mono (by omega)) passE (ev 2) (a_cons (ev 3) (a_nil))) (a_nil)))))))))))
theorem sc_law : FnScope ["script", "k", "more", "kind", "row", "bad", "found", "looker", "one", "whole"] ["script"] (defScope (topS 36)) := ⟨rfl, rfl, rfl, by decide +kernel, rfl, by decide +kernel, by decide +kernel⟩
theorem k_law {CP CL_Looker : Addr} {fd : FuncData} (G : Gm K mg) (TD : Told P w K mg base T ns "LookError" "_law_told" "_law_word" "deed" "e" 0) (LI : LamI K mg base T "law") (OC_Looker : ObC K mg "Looker" CL_Looker flds_Looker) (F_depth : FnI P w K mg base T 25 "depth" 1 m_depth) (F_decide : FnI P w K mg base T 27 "decide" 2 m_decide) (F_grounds : FnI P w K mg base T 12 "grounds" 2 m_grounds) (F_most_grounds : FnI P w K mg base T 12 "most_grounds" 1 m_most_grounds) (F_free_places : FnI P w K mg base T 3 "free_places" 1 m_free_places) (F_L_cell : FnI P w K mg base T 1 "_law_cell" 2 m_L_cell) (F_L_drawn : FnI P w K mg base T 1 "_law_drawn" 2 m_L_drawn) (F_L_words : FnI P w K mg base T 1 "_law_words" 2 m_L_words) (F_L_kind : FnI P w K mg base T 2 "_law_kind" 2 m_L_kind) (O_Looker_initN : MkW P w K mg base T "Looker" CL_Looker 4 2 m_Looker_initN) (O_Looker_initX : MkR P w K mg base T "Looker" CL_Looker 4 2 m_Looker_initX) (O_Looker_lookW : MtW P w K mg base T "Looker" CL_Looker 1 "look" 1 m_Looker_lookW) (O_Looker_lookX : MtR P w K mg base T "Looker" CL_Looker 1 "look" 1 m_Looker_lookX) (O_Looker_lookedR : MtR P w K mg base T "Looker" CL_Looker 1 "looked" 0 m_Looker_lookedR) (O_Looker_redoX : MtR P w K mg base T "Looker" CL_Looker 1 "redo" 0 m_Looker_redoX) (F : FunD K "law" "law" (defArgs (topS 36)) (defBody (topS 36)) (defScope (topS 36)) [] [] (He.ga K "law") fd) : FnOk P w K mg base (L2N.CX P w) 30 (He.ga K "law") fd ["script"] (spOf K mg T 1 m_law) := by
  have nd := sc_law.nd
  refine def_okF (k := 29) 1 F sc_law rfl (fun cdv A outer s H E hcd hr => ?_)
  exact ss_cons (s_for (p := .nm 1) (passes_of rfl) rfl (i_range1 rfl G.range (a_cons (e_bt (b_max2 rfl G.max) rfl (a_cons (e_int) (a_cons (e_bt (b_min2 rfl G.min) rfl (a_cons (e_int) (a_cons (e_bt (b_len G.len) rfl (a_cons (ev 0) (a_nil))) (a_nil)))) (a_nil)))) (a_nil))) (g_nm 1 nd) (ss_cons (s_st 2 nd (e_call F_L_drawn (hr.mono (by decide)) passE rfl (a_cons (e_call F_L_cell (hr.mono (by decide)) passE rfl (a_cons (ev 0) (a_cons (ev 1) (a_nil)))) (a_cons (ev 1) (a_nil))))) (ss_cons (s_st 3 nd (e_call F_L_kind (hr.mono (by decide)) passE rfl (a_cons (ev 2) (a_cons (e_int) (a_nil))))) (ss_cons (s_st 4 nd (e_call F_L_words (hr.mono (by decide)) passE rfl (a_cons (e_ix (ev 3) (e_int) (fun _ _ => rfl)) (a_cons (e_ix (ev 3) (e_int) (fun _ _ => rfl)) (a_nil))))) (ss_cons (s_for (p := .nm 5) (passes_of rfl) rfl (i_seq (e_lst (a_cons (e_tup (a_cons (e_ix (ev 3) (e_int) (fun _ _ => rfl)) (a_cons (e_ix (ev 3) (e_int) (fun _ _ => rfl)) (a_cons (e_lst (a_nil)) (a_nil))))) (a_cons (e_tup (a_cons (e_int) (a_cons (e_int) (a_cons (e_lst (a_cons (e_tup (a_cons (e_int) (a_nil))) (a_nil))) (a_nil))))) (a_cons (e_tup (a_cons (e_int) (a_cons (e_int) (a_cons (e_lst (a_cons (e_tup (a_cons (e_int) (a_nil))) (a_nil))) (a_nil))))) (a_cons (e_tup (a_cons (e_int) (a_cons (e_int) (a_cons (e_lst (a_cons (e_mulX (e_tup (a_cons (e_int) (a_nil))) (e_int)) (a_nil))) (a_nil))))) (a_cons (e_tup (a_cons (e_int) (a_cons (e_int) (a_cons (e_lst (a_cons (e_tup (a_cons (e_int) (a_nil))) (a_cons (e_tup (a_cons (e_int) (a_nil))) (a_nil)))) (a_nil))))) (a_nil)))))))) (g_nm 5 nd) (ss_cons (s_so 6 nd (a_cons (e_td (k := 27) TD LI hcd rfl hr (by decide) (lamS_by (by kernel_rfl)) rfl rfl (fun _ _ _ _ _ => rfl) (fun A outer s H E f c hr => e_call F_depth (hr.mono (by decide)) passLam rfl (a_cons (ev 5) (a_nil)))) (a_nil))) (ss_cons (s_app (i := 6) (e_td (k := 27) TD LI hcd rfl hr (by decide) (lamS_by (by kernel_rfl)) rfl rfl (fun _ _ _ _ _ => rfl) (fun A outer s H E f c hr => e_call F_decide (hr.mono (by decide)) passLam rfl (a_cons (ev 5) (a_cons (e_non) (a_nil)))))) (ss_cons (s_app (i := 6) (e_td (k := 27) TD LI hcd rfl hr (by decide) (lamS_by (by kernel_rfl)) rfl rfl (fun _ _ _ _ _ => rfl) (fun A outer s H E f c hr => e_call F_grounds (hr.mono (by decide)) passLam rfl (a_cons (ev 5) (a_cons (e_non) (a_nil)))))) (ss_cons (s_app (i := 6) (e_td (k := 27) TD LI hcd rfl hr (by decide) (lamS_by (by kernel_rfl)) rfl rfl (fun _ _ _ _ _ => rfl) (fun A outer s H E f c hr => e_call F_most_grounds (hr.mono (by decide)) passLam rfl (a_cons (ev 5) (a_nil))))) (ss_cons (s_app (i := 6) (e_td (k := 27) TD LI hcd rfl hr (by decide) (lamS_by (by kernel_rfl)) rfl rfl (fun _ _ _ _ _ => rfl) (fun A outer s H E f c hr => e_call F_free_places (hr.mono (by decide)) passLam rfl (a_cons (ev 5) (a_nil))))) (ss_cons (s_app (i := 6) (e_td (k := 27) TD LI hcd rfl hr (by decide) (lamS_by (by kernel_rfl)) rfl rfl (fun _ _ _ _ _ => rfl) (fun A outer s H E f c hr => e_mkX OC_Looker O_Looker_initX (hr.mono (by omega)) passLam rfl (a_cons (ev 5) (a_cons (e_non) (a_nil)))))) (ss_one (s_frz (i := 6) (s_if (t_cm (c_ne hr) (ev 6) (e_mul (e_lst (a_cons (e_str) (a_nil))) (e_int)) (nomark _)) (ss_one (s_ret (e_bl))) (ss_nil))))))))))) (ss_cons (s_for (p := .nm 5) (passes_of rfl) rfl (i_seq (e_lst (a_cons (e_non) (a_cons (e_tup (a_nil)) (a_cons (e_add (e_ix (ev 4) (e_int) (fun _ _ => rfl)) (e_tup (a_cons (e_int) (a_nil)))) (a_cons (e_mulX (e_tup (a_cons (e_ix (ev 3) (e_int) (fun _ _ => rfl)) (a_nil))) (e_ix (ev 3) (e_int) (fun _ _ => rfl))) (a_cons (e_bt (b_list G.list) rfl (a_cons (e_ix (ev 4) (e_int) (fun _ _ => rfl)) (a_nil))) (a_cons (e_mulX (e_tup (a_cons (e_bl) (a_nil))) (e_ix (ev 3) (e_int) (fun _ _ => rfl))) (a_nil))))))))) (g_nm 5 nd) (ss_cons (s_so 6 nd (a_cons (e_td (k := 27) TD LI hcd rfl hr (by decide) (lamS_by (by kernel_rfl)) rfl rfl (fun _ _ _ _ _ => rfl) (fun A outer s H E f c hr => e_call F_decide (hr.mono (by decide)) passLam rfl (a_cons (ev 3) (a_cons (ev 5) (a_nil))))) (a_nil))) (ss_cons (s_app (i := 6) (e_td (k := 27) TD LI hcd rfl hr (by decide) (lamS_by (by kernel_rfl)) rfl rfl (fun _ _ _ _ _ => rfl) (fun A outer s H E f c hr => e_call F_grounds (hr.mono (by decide)) passLam rfl (a_cons (ev 3) (a_cons (ev 5) (a_nil)))))) (ss_cons (s_app (i := 6) (e_td (k := 27) TD LI hcd rfl hr (by decide) (lamS_by (by kernel_rfl)) rfl rfl (fun _ _ _ _ _ => rfl) (fun A outer s H E f c hr => e_mkX OC_Looker O_Looker_initX (hr.mono (by omega)) passLam rfl (a_cons (ev 3) (a_cons (ev 5) (a_nil)))))) (ss_one (s_frz (i := 6) (s_if (t_cm (c_ne hr) (ev 6) (e_mul (e_lst (a_cons (e_str) (a_nil))) (e_int)) (nomark _)) (ss_one (s_ret (e_bl))) (ss_nil)))))))) (ss_cons (s_mk 7 OC_Looker O_Looker_initN (hr.mono (by omega)) passE nd rfl (a_cons (ev 3) (a_cons (e_ix (ev 4) (e_mod (e_div (ev 2) (e_int)) (e_bt (b_len G.len) rfl (a_cons (ev 4) (a_nil)))) (fun _ _ => rfl)) (a_nil)))) (ss_cons (s_for (p := .nm 5) (passes_of rfl) rfl (i_seq (e_lst (a_cons (e_neg (e_int)) (a_cons (e_ix (ev 3) (e_int) (fun _ _ => rfl)) (a_cons (e_non) (a_cons (e_bl) (a_cons (e_str) (a_cons (e_tup (a_cons (e_int) (a_nil))) (a_nil))))))))) (g_nm 5 nd) (ss_one (s_if (t_w (w_or (t_cm (c_ne hr) (e_td (k := 27) TD LI hcd rfl hr (by decide) (lamS_by (by kernel_rfl)) rfl rfl (fun _ _ _ _ _ => rfl) (fun A outer s H E f c hr => e_methR 7 OC_Looker O_Looker_lookX (hr.mono (by omega)) passLam (a_cons (ev 5) (a_nil)))) (e_str) (nomark _)) (w_or1 (t_cm (c_ne hr) (e_methR0 7 OC_Looker O_Looker_lookedR (hr.mono (by omega)) passE) (e_lst (a_nil)) (nomark _))))) (ss_one (s_ret (e_bl))) (ss_nil)))) (ss_cons (s_methW 7 OC_Looker O_Looker_lookW (hr.mono (by omega)) passE (a_cons (e_int) (a_nil))) (ss_cons (s_if (t_cm (c_ne hr) (e_td (k := 27) TD LI hcd rfl hr (by decide) (lamS_by (by kernel_rfl)) rfl rfl (fun _ _ _ _ _ => rfl) (fun A outer s H E f c hr => e_methR 7 OC_Looker O_Looker_lookX (hr.mono (by omega)) passLam (a_cons (e_int) (a_nil)))) (e_str) (nomark _)) (ss_one (s_ret (e_bl))) (ss_nil)) (ss_cons (s_if (t_cm (c_ne hr) (e_td (k := 27) TD LI hcd rfl hr (by decide) (lamS_by (by kernel_rfl)) rfl rfl (fun _ _ _ _ _ => rfl) (fun A outer s H E f c hr => e_methR0 7 OC_Looker O_Looker_redoX (hr.mono (by omega)) passLam)) (e_str) (nomark _)) (ss_one (s_ret (e_bl))) (ss_nil)) (ss_one (s_if (t_cm (c_ne hr) (e_methR0 7 OC_Looker O_Looker_lookedR (hr.mono (by omega)) passE) (e_lst (a_cons (e_int) (a_nil))) (nomark _)) (ss_one (s_ret (e_bl))) (ss_nil)))))))))))))) (ss_cons (sp2 8 9 (ps_par rfl nd rfl rfl (by decide) rfl rfl (a_cons (e_tup (a_cons (e_int) (a_cons (e_int) (a_cons (e_lst (a_cons (e_mulX (e_tup (a_cons (e_int) (a_nil))) (e_int)) (a_nil))) (a_nil))))) (a_cons (e_tup (a_cons (e_int) (a_cons (e_int) (a_cons (e_call F_L_words (hr.mono (by decide)) passE rfl (a_cons (e_int) (a_cons (e_int) (a_nil)))) (a_nil))))) (a_nil))) (by rfl))) (ss_cons (s_if (t_w (w_or (t_cm (c_ne hr) (e_call F_depth (hr.mono (by decide)) passE rfl (a_cons (ev 8) (a_nil))) (e_int) (nomark _)) (w_or (t_cm (c_ne hr) (e_call F_depth (hr.mono (by decide)) passE rfl (a_cons (ev 9) (a_nil))) (e_int) (nomark _)) (w_or1 (t_cm (c_ne hr) (e_call F_grounds (hr.mono (by decide)) passE rfl (a_cons (ev 9) (a_cons (e_mulX (e_tup (a_cons (e_int) (a_nil))) (e_int)) (a_nil)))) (e_tup (a_nil)) (nomark _)))))) (ss_one (s_ret (e_bl))) (ss_nil)) (ss_cons (s_if (t_cm (c_ne hr) (e_call F_grounds (hr.mono (by decide)) passE rfl (a_cons (ev 8) (a_cons (e_tup (a_cons (e_int) (a_cons (e_int) (a_cons (e_int) (a_cons (e_int) (a_cons (e_int) (a_cons (e_int) (a_nil)))))))) (a_nil)))) (e_tup (a_cons (e_int) (a_nil))) (nomark _)) (ss_one (s_ret (e_bl))) (ss_nil)) (ss_one (s_ret (e_and (e_cm (c_eq hr) (e_call F_most_grounds (hr.mono (by decide)) passE rfl (a_cons (ev 8) (a_nil))) (e_tup (a_cons (e_int) (a_cons (e_mulX (e_tup (a_cons (e_int) (a_nil))) (e_int)) (a_nil)))) (nomark _)) (e_one (e_cm (c_eq hr) (e_call F_free_places (hr.mono (by decide)) passE rfl (a_cons (ev 9) (a_nil))) (e_lst (a_cons (e_int) (a_cons (e_int) (a_cons (e_int) (a_cons (e_int) (a_cons (e_int) (a_cons (e_int) (a_nil)))))))) (nomark _)))))))))
end
end K91
set_option Elab.async false
set_option linter.all false
set_option maxRecDepth 100000
set_option maxHeartbeats 4000000
namespace K91
open PySem PySem.Spec PyProof.Rows L2 LamX FL
/-! ### the draw -/
theorem cell_val (ns : List Int) (k : Nat) (hk : k < 64) (hl : ns.length ≤ 63) : ∃ i, m_L_cell [.scr ns, .int (k : Nat)] = .ok (.int i) := by
  by_cases h : ns = []
  · subst h
    refine ⟨(k : Int) * 7919, ?_⟩
    have e1 : dEq (.scr []) (.lst []) = .ok (.bl true) := rfl
    have e2 : dMul (.int (k : Nat)) (.int 7919) = .ok (.int ((k : Int) * 7919)) := dMul_r (by decide)
    simp only [m_L_cell, defM, sSeq, sSet, sIf, sRet, sDrop, sOwn, sApp, sExtd, sFrz, sPar, sTup, sFor, bindP, setAll, sRaise, sNext, SO.ofO, SO.ofB, SO.ofA, FL.mN, mCons, mNil, mVar, mC, FL.c1, FL.c2, FL.m1, FL.m2, Out.bind, arg, frzE, ownAt, mT, toB, tAndM, tOrM, tNotM, tYesM, mIf, mAnd, mOr, dNot, mSl, oNone, oSome, mI, mItems, items, mOIx, mOItems, mL, List.map_cons, List.map_nil, List.replicate, List.cons_append, List.nil_append, List.getElem?_cons_zero, List.getElem?_cons_succ, List.set_cons_succ, List.set_cons_zero, List.length_cons, List.length_nil, Nat.zero_add, Nat.reduceAdd, if_true, reduceCtorEq, wipeE, reduceIte, Bool.not_true, Bool.not_false, Bool.false_eq_true, dLst, LIM, Nat.zero_le, e1, e2]
  · have hp : 0 < ns.length := List.length_pos_iff.mpr h
    refine ⟨ns.getD (k % ns.length) 0 + (k : Int) / (ns.length : Nat) * 104729, ?_⟩
    have e1 : dEq (.scr ns) (.lst []) = .ok (.bl false) := by
      unfold dEq
      rw [if_pos (by rfl), eqv_scr_nil, decide_eq_false h]
    have e2 : dMod (.int (k : Nat)) (.int (ns.length : Nat)) = .ok (.int ((k % ns.length : Nat) : Int)) := by
      rw [dMod_ok (by omega)]
      rfl
    have e3 := dIx_scr (row := ns) (j := k % ns.length) (Nat.mod_lt _ hp)
    have e4 : dDiv (.int (k : Nat)) (.int (ns.length : Nat)) = .ok (.int ((k : Int) / (ns.length : Nat))) := dDiv_64 (by omega) (by omega)
    have e5 : dMul (.int ((k : Int) / (ns.length : Nat))) (.int 104729) = .ok (.int ((k : Int) / (ns.length : Nat) * 104729)) := dMul_r (by decide)
    simp only [m_L_cell, defM, sSeq, sSet, sIf, sRet, sDrop, sOwn, sApp, sExtd, sFrz, sPar, sTup, sFor, bindP, setAll, sRaise, sNext, SO.ofO, SO.ofB, SO.ofA, FL.mN, mCons, mNil, mVar, mC, FL.c1, FL.c2, FL.m1, FL.m2, Out.bind, arg, frzE, ownAt, mT, toB, tAndM, tOrM, tNotM, tYesM, mIf, mAnd, mOr, dNot, mSl, oNone, oSome, mI, mItems, items, mOIx, mOItems, mL, List.map_cons, List.map_nil, List.replicate, List.cons_append, List.nil_append, List.getElem?_cons_zero, List.getElem?_cons_succ, List.set_cons_succ, List.set_cons_zero, List.length_cons, List.length_nil, Nat.zero_add, Nat.reduceAdd, if_true, reduceCtorEq, wipeE, reduceIte, Bool.not_true, Bool.not_false, Bool.false_eq_true, dLst, LIM, Nat.zero_le, e1, e2, e3, e4, e5, dLen_scr, dAdd_int]
theorem drawn_val (c k : Int) (hk0 : 0 ≤ k) (hk : k < 1000000) : ∃ i, m_L_drawn [.int c, .int k] = .ok (.int i) ∧ 0 ≤ i ∧ i < 340282366920938463463374607431768211507 := by
  obtain ⟨x1, h1⟩ : ∃ x, x = (c * 6364136223846793005 + (k + 1) * 1442695040888963407) % 340282366920938463463374607431768211507 := ⟨_, rfl⟩
  have b1 : 0 ≤ x1 ∧ x1 < 340282366920938463463374607431768211507 := by omega
  obtain ⟨x2, h2⟩ : ∃ x, x = (x1 * x1) % 340282366920938463463374607431768211297 := ⟨_, rfl⟩
  have b2 : 0 ≤ x2 ∧ x2 < 340282366920938463463374607431768211297 := by omega
  have e1 : dMul (.int c) (.int 6364136223846793005) = .ok (.int (c * 6364136223846793005)) := dMul_r (by decide)
  have e2 : dMul (.int (k + 1)) (.int 1442695040888963407) = .ok (.int ((k + 1) * 1442695040888963407)) := dMul_r (by decide)
  have e3 : dMod (.int (c * 6364136223846793005 + (k + 1) * 1442695040888963407)) (.int 340282366920938463463374607431768211507) = .ok (.int x1) := by
    rw [dMod_ok (by decide), h1]
  have big : ((340282366920938463463374607431768211507 * 340282366920938463463374607431768211507 : Nat) : Int) ≤ 2 ^ 4000 := by
    have : (340282366920938463463374607431768211507 * 340282366920938463463374607431768211507 : Nat) ≤ 2 ^ 4000 := Nat.le_trans (by decide : _ ≤ 2 ^ 250 * 2 ^ 250) (by rw [← Nat.pow_add]; exact Nat.pow_le_pow_right (by decide) (by decide))
    exact_mod_cast this
  have sm : ∀ x : Int, 0 ≤ x → x < 340282366920938463463374607431768211507 * 340282366920938463463374607431768211507 → small x = true := fun x h0 h => small_lt (by
    have : (0 : Int) < 2 ^ 4000 := Int.pow_pos (by decide)
    omega) (by
    generalize (2 : Int) ^ 4000 = p at big
    omega)
  have s1 : small x1 = true := sm x1 b1.1 (by omega)
  have s2 : small x2 = true := sm x2 b2.1 (by omega)
  have e4 : dMul (.int x1) (.int x1) = .ok (.int (x1 * x1)) := dMul_s s1 s1
  have e5 : dMod (.int (x1 * x1)) (.int 340282366920938463463374607431768211297) = .ok (.int x2) := by
    rw [dMod_ok (by decide), h2]
  have e6 : dMod (.int x2) (.int 18446744073709551557) = .ok (.int (x2 % 18446744073709551557)) := dMod_ok (by decide)
  have e7 : dDiv (.int x2) (.int 18446744073709551557) = .ok (.int (x2 / 18446744073709551557)) := dDiv_64 (by decide) (by decide)
  have b3 : 0 ≤ x2 % 18446744073709551557 + 1 ∧ x2 % 18446744073709551557 + 1 < 18446744073709551616 := by omega
  have b4 : 0 ≤ x2 / 18446744073709551557 + 1 ∧ x2 / 18446744073709551557 + 1 < 36893488147419103232 := by omega
  have e8 : dMul (.int (x2 % 18446744073709551557 + 1)) (.int (x2 / 18446744073709551557 + 1)) = .ok (.int ((x2 % 18446744073709551557 + 1) * (x2 / 18446744073709551557 + 1))) := dMul_l (by omega)
  have b5 : (x2 % 18446744073709551557 + 1) * (x2 / 18446744073709551557 + 1) ≤ 18446744073709551616 * 36893488147419103232 := Int.mul_le_mul (by omega) (by omega) b4.1 (by decide)
  have b6 : 0 ≤ (x2 % 18446744073709551557 + 1) * (x2 / 18446744073709551557 + 1) := Int.mul_nonneg b3.1 b4.1
  have e9 : dMul (.int ((x2 % 18446744073709551557 + 1) * (x2 / 18446744073709551557 + 1))) (.int x2) = .ok (.int ((x2 % 18446744073709551557 + 1) * (x2 / 18446744073709551557 + 1) * x2)) := dMul_s (sm _ b6 (by omega)) s2
  refine ⟨((x2 % 18446744073709551557 + 1) * (x2 / 18446744073709551557 + 1) * x2) % 340282366920938463463374607431768211507, ?_, ?_⟩
  · have e10 : dMod (.int ((x2 % 18446744073709551557 + 1) * (x2 / 18446744073709551557 + 1) * x2)) (.int 340282366920938463463374607431768211507) = .ok (.int (((x2 % 18446744073709551557 + 1) * (x2 / 18446744073709551557 + 1) * x2) % 340282366920938463463374607431768211507)) := dMod_ok (by decide)
    simp only [m_L_drawn, defM, sSeq, sSet, sIf, sRet, sDrop, sOwn, sApp, sExtd, sFrz, sPar, sTup, sFor, bindP, setAll, sRaise, sNext, SO.ofO, SO.ofB, SO.ofA, FL.mN, mCons, mNil, mVar, mC, FL.c1, FL.c2, FL.m1, FL.m2, Out.bind, arg, frzE, ownAt, mT, toB, tAndM, tOrM, tNotM, tYesM, mIf, mAnd, mOr, dNot, mSl, oNone, oSome, mI, mItems, items, mOIx, mOItems, mL, List.map_cons, List.map_nil, List.replicate, List.cons_append, List.nil_append, List.getElem?_cons_zero, List.getElem?_cons_succ, List.set_cons_succ, List.set_cons_zero, List.length_cons, List.length_nil, Nat.zero_add, Nat.reduceAdd, if_true, reduceCtorEq, wipeE, reduceIte, Bool.not_true, Bool.not_false, Bool.false_eq_true, dAdd_int, e1, e2, e3, e4, e5, e6, e7, e8, e9, e10]
  · omega

/-! ### words and kinds -/
theorem mAnd_bl {a b : FL.Env → Out D} {Γ : FL.Env} {x y : Bool} (ha : a Γ = .ok (.bl x)) (hb : x = true → b Γ = .ok (.bl y)) : mAnd a b Γ = .ok (.bl (x && y)) := by
  unfold mAnd
  rw [ha, Out.bind]
  cases x with
  | true => exact hb rfl
  | false => rfl
theorem chain_bl {f g : D → D → Out D} {a b c : FL.Env → Out D} {Γ : FL.Env} {x y z : D} {p q : Bool} (ha : a Γ = .ok x) (hb : b Γ = .ok y) (hf : f x y = .ok (.bl p)) (hc : c Γ = .ok z) (hg : g y z = .ok (.bl q)) : mChain f g a b c Γ = .ok (.bl (p && q)) := by
  unfold mChain
  rw [ha, Out.bind, hb, Out.bind, hf, Out.bind]
  cases p with
  | true =>
    show (c Γ).bind (g y) = _
    rw [hc]
    exact hg
  | false => rfl
theorem tNot_ok {c : FL.Env → Out Bool} {Γ : FL.Env} {b : Bool} (h : c Γ = .ok b) : tNotM c Γ = .ok (!b) := by
  unfold tNotM
  rw [h]
  rfl
theorem tOr_ok {a b : FL.Env → Out Bool} {Γ : FL.Env} {x y : Bool} (ha : a Γ = .ok x) (hb : x = false → b Γ = .ok y) : tOrM a b Γ = .ok (x || y) := by
  unfold tOrM
  rw [ha, Out.bind]
  cases x with
  | true => rfl
  | false => exact hb rfl
theorem a3_ok {a b c : FL.Env → Out D} {Γ : FL.Env} {x y z : D} (ha : a Γ = .ok x) (hb : b Γ = .ok y) (hc : c Γ = .ok z) : mCons a (mCons b (mCons c mNil)) Γ = .ok [x, y, z] := mCons_ok ha (a2_ok hb hc)
theorem f3_ok {f : List D → Out D} {a b c : FL.Env → Out D} {Γ : FL.Env} {x y z : D} {o : Out D} (ha : a Γ = .ok x) (hb : b Γ = .ok y) (hc : c Γ = .ok z) (h : f [x, y, z] = o) : mN (arg 3 f) (mCons a (mCons b (mCons c mNil))) Γ = o := by
  unfold mN
  rw [a3_ok ha hb hc]
  exact h
def isW (L n : Int) (w : List Int) : Bool := decide ((w.length : Int) = n) && w.all fun x => decide (0 ≤ x) && decide (x < L)
theorem isw_val (w : List Int) (L n : Int) (hl : w.length ≤ 1000) : m_is_word [wD w, .int L, .int n] = .ok (.bl (isW L n w)) := by
  unfold m_is_word defM
  rw [show ([wD w, D.int L, D.int n].map (fun d => some (Sl.dat d)) ++ List.replicate 1 none) = [some (.dat (wD w)), some (.dat (.int L)), some (.dat (.int n)), none] from rfl]
  have e1 : dIsi (wD w) (.ty "tuple") = .ok (.bl true) := rfl
  have e2 := dNe_int (w.length : Nat) n
  unfold isW
  by_cases h : (w.length : Int) = n
  · rw [decide_eq_true h] at e2 ⊢
    rw [sSeq_nx (sIf_no (by simp only [sSeq, sSet, sIf, sRet, sDrop, sOwn, sApp, sExtd, sFrz, sPar, sTup, sFor, bindP, setAll, sRaise, sNext, SO.ofO, SO.ofB, SO.ofA, FL.mN, mCons, mNil, mVar, mC, FL.c1, FL.c2, FL.m1, FL.m2, Out.bind, arg, frzE, ownAt, mT, toB, tAndM, tOrM, tNotM, tYesM, mIf, mAnd, mOr, dNot, mSl, oNone, oSome, mI, mItems, items, mOIx, mOItems, mL, List.map_cons, List.map_nil, List.replicate, List.cons_append, List.nil_append, List.getElem?_cons_zero, List.getElem?_cons_succ, List.set_cons_succ, List.set_cons_zero, List.length_cons, List.length_nil, Nat.zero_add, Nat.reduceAdd, if_true, reduceCtorEq, wipeE, reduceIte, Bool.not_true, Bool.not_false, Bool.false_eq_true, e1, len_wD, e2])), Bool.true_and]
    rw [sRet_ok (b1_ok (mComp_all D.int (fun x => D.bl (true && (true && (decide (0 ≤ x) && decide (x < L))))) (by rfl) (fun x hx => ⟨_, rfl, mAnd_bl (by rfl) (fun _ => mAnd_bl (by rfl) (fun _ => chain_bl (by rfl) (by rfl) (dLe_int _ _) (by rfl) (dLt_int _ _)))⟩) (by unfold LIM; omega)) (dAll_map _ _))]
    simp only [Bool.true_and]
  · rw [decide_eq_false h] at e2 ⊢
    rw [sSeq_rt (d := .bl false) (by simp only [sSeq, sSet, sIf, sRet, sDrop, sOwn, sApp, sExtd, sFrz, sPar, sTup, sFor, bindP, setAll, sRaise, sNext, SO.ofO, SO.ofB, SO.ofA, FL.mN, mCons, mNil, mVar, mC, FL.c1, FL.c2, FL.m1, FL.m2, Out.bind, arg, frzE, ownAt, mT, toB, tAndM, tOrM, tNotM, tYesM, mIf, mAnd, mOr, dNot, mSl, oNone, oSome, mI, mItems, items, mOIx, mOItems, mL, List.map_cons, List.map_nil, List.replicate, List.cons_append, List.nil_append, List.getElem?_cons_zero, List.getElem?_cons_succ, List.set_cons_succ, List.set_cons_zero, List.length_cons, List.length_nil, Nat.zero_add, Nat.reduceAdd, if_true, reduceCtorEq, wipeE, reduceIte, Bool.not_true, Bool.not_false, Bool.false_eq_true, e1, len_wD, e2])]
    rfl
def kD (L n : Int) (ws : List (List Int)) : D := .tup [.int L, .int n, wsD ws]
def kindOk (L n : Int) (ws : List (List Int)) : Bool := (decide (L = 2) || decide (L = 3)) && (decide (1 ≤ n) && decide (n ≤ 6) && decide (0 < ws.length))
theorem in23 (L : Int) : dIn (.int L) (.tup [.int 2, .int 3]) = .ok (.bl (decide (L = 2) || decide (L = 3))) := by
  unfold dIn
  rw [if_pos (by rfl)]
  unfold inD seqD
  simp only [List.any_cons, List.any_nil, eqv_int, Bool.or_false]
  have h1 : decide ((2 : Int) = L) = decide (L = 2) := decide_eq_decide.mpr ⟨fun h => h.symm, fun h => h.symm⟩
  have h2 : decide ((3 : Int) = L) = decide (L = 3) := decide_eq_decide.mpr ⟨fun h => h.symm, fun h => h.symm⟩
  rw [h1, h2]
/-- the first half of need_kind, for any list of things -/
theorem kind_first {L n : Int} {xs : List D} {q : D → Bool} (hq : ∀ x ∈ xs, m_is_word [x, .int L, .int n] = .ok (.bl (q x))) (hl : xs.length ≤ 10000) {b : FL.Env → SO} :
    sSeq (sTup (.tp [1, 2, 3]) (mVar 0)) (sSeq (sSet 4 (mAnd (m2 dIn (mVar 1) (mN dTup (mCons (mC (.int 2)) (mCons (mC (.int 3)) (mNil))))) (mAnd (mChain dLe dLe (mC (.int 1)) (mVar 2) (mC (.int 6))) (m2 dGt (mN (c1 dLen) (mCons (mVar 3) (mNil))) (mC (.int 0)))))) (sSeq (sIf (tOrM (tNotM (mT (mVar 4))) (tNotM (mT (mN (c1 dAll) (mCons (mComp [5] (.nm 5) (mItems (mVar 3)) (tYesM) (mN (arg 3 m_is_word) (mCons (mVar 5) (mCons (mVar 1) (mCons (mVar 2) (mNil)))))) (mNil)))))) (sRaise "BadKind") (sNext)) b)) [some (.dat (.tup [.int L, .int n, .lst xs])), none, none, none, none, none, none, none] =
      if ((decide (L = 2) || decide (L = 3)) && (decide (1 ≤ n) && decide (n ≤ 6) && decide (0 < xs.length))) = true ∧ xs.all q = true then b [some (.dat (.tup [.int L, .int n, .lst xs])), some (.dat (.int L)), some (.dat (.int n)), some (.dat (.lst xs)), some (.dat (.bl true)), none, none, none] else .exc "BadKind" := by
  rw [sSeq_nx (Γ' := [some (.dat (.tup [.int L, .int n, .lst xs])), some (.dat (.int L)), some (.dat (.int n)), some (.dat (.lst xs)), none, none, none, none]) (by rfl)]
  have e1 : mAnd (m2 dIn (mVar 1) (mN dTup (mCons (mC (.int 2)) (mCons (mC (.int 3)) (mNil))))) (mAnd (mChain dLe dLe (mC (.int 1)) (mVar 2) (mC (.int 6))) (m2 dGt (mN (c1 dLen) (mCons (mVar 3) (mNil))) (mC (.int 0)))) [some (.dat (.tup [.int L, .int n, .lst xs])), some (.dat (.int L)), some (.dat (.int n)), some (.dat (.lst xs)), none, none, none, none] = .ok (.bl ((decide (L = 2) || decide (L = 3)) && ((decide (1 ≤ n) && decide (n ≤ 6)) && decide (0 < ((xs.length : Nat) : Int))))) :=
    mAnd_bl (m2_ok (by rfl) (mN_ok (a2_ok (by rfl) (by rfl)) (by rfl)) (in23 L)) (fun _ => mAnd_bl (chain_bl (by rfl) (by rfl) (dLe_int _ _) (by rfl) (dLe_int _ _)) (fun _ => m2_ok (b1_ok (x := .lst xs) (by rfl) (dLen_lst xs)) (by rfl) (dGt_int _ _)))
  have h0 : decide ((0 : Int) < ((xs.length : Nat) : Int)) = decide (0 < xs.length) := decide_eq_decide.mpr (by omega)
  rw [h0] at e1
  rw [sSeq_nx (sSet_ok e1)]
  simp only [List.set_cons_zero, List.set_cons_succ]
  generalize ((decide (L = 2) || decide (L = 3)) && (decide (1 ≤ n) && decide (n ≤ 6) && decide (0 < xs.length))) = g
  cases g with
  | false =>
    rw [if_neg (by simp)]
    exact sSeq_exc ((sIf_ok (x := true) (tOr_ok (x := true) (y := true) (tNot_ok (b := false) (by rfl)) (fun h => by cases h))).trans rfl)
  | true =>
    have e2 : mN (c1 dAll) (mCons (mComp [5] (.nm 5) (mItems (mVar 3)) (tYesM) (mN (arg 3 m_is_word) (mCons (mVar 5) (mCons (mVar 1) (mCons (mVar 2) (mNil)))))) (mNil)) [some (.dat (.tup [.int L, .int n, .lst xs])), some (.dat (.int L)), some (.dat (.int n)), some (.dat (.lst xs)), some (.dat (.bl true)), none, none, none] = .ok (.bl (xs.all q)) := by
      refine b1_ok (mComp_all (xs := xs) (fun x => x) (fun x => D.bl (q x)) (by rw [List.map_id']; rfl) (fun x hx => ⟨_, rfl, ?_⟩) (by unfold LIM; omega)) (dAll_map _ _)
      exact f3_ok (by rfl) (by rfl) (by rfl) (hq x hx)
    have e3 := tOr_ok (a := tNotM (mT (mVar 4))) (b := tNotM (mT (mN (c1 dAll) (mCons (mComp [5] (.nm 5) (mItems (mVar 3)) (tYesM) (mN (arg 3 m_is_word) (mCons (mVar 5) (mCons (mVar 1) (mCons (mVar 2) (mNil)))))) (mNil))))) (Γ := [some (.dat (.tup [.int L, .int n, .lst xs])), some (.dat (.int L)), some (.dat (.int n)), some (.dat (.lst xs)), some (.dat (.bl true)), none, none, none]) (x := false) (tNot_ok (b := true) (by rfl)) (fun _ => tNot_ok (mT_ok e2))
    cases ha : xs.all q with
    | false =>
      rw [ha] at e3
      rw [if_neg (by simp)]
      exact sSeq_exc ((sIf_ok e3).trans rfl)
    | true =>
      rw [ha] at e3
      rw [if_pos ⟨rfl, rfl⟩]
      exact sSeq_nx (sIf_no e3)
theorem kind_bad {L n : Int} {xs : List D} {q : D → Bool} (hq : ∀ x ∈ xs, m_is_word [x, .int L, .int n] = .ok (.bl (q x))) (hl : xs.length ≤ 10000)
    (h : ¬ (((decide (L = 2) || decide (L = 3)) && (decide (1 ≤ n) && decide (n ≤ 6) && decide (0 < xs.length))) = true ∧ xs.all q = true)) : m_need_kind [.tup [.int L, .int n, .lst xs]] = .exc "BadKind" :=
  defM_exc ((kind_first hq hl).trans (if_neg h))
theorem isw_all {ws : List (List Int)} {L n : Int} (hw : ∀ w ∈ ws, w.length ≤ 1000) : ∀ x ∈ ws.map wD, m_is_word [x, .int L, .int n] = .ok (.bl ((fun d => match d with | .tup xs => (match toInts xs with | some w => isW L n w | none => false) | _ => false) x)) := fun x hx => by
  obtain ⟨w, hw2, rfl⟩ := List.mem_map.mp hx
  rw [isw_val w L n (hw w hw2)]
  simp only [wD, toInts_map]
theorem all_isw (ws : List (List Int)) (L n : Int) : ((ws.map wD).all fun d => match d with | .tup xs => (match toInts xs with | some w => isW L n w | none => false) | _ => false) = ws.all (isW L n) := by
  rw [List.all_map]
  congr 1
  funext w
  simp only [Function.comp, wD, toInts_map]
theorem kind_val (ws : List (List Int)) (L n : Int) (hw : ∀ w ∈ ws, w.length ≤ 1000) (hl : ws.length ≤ 10000) : m_need_kind [kD L n ws] = if kindOk L n ws = true ∧ ws.all (isW L n) = true ∧ riseW ws = true then .ok .non else .exc "BadKind" := by
  have F := kind_first (L := L) (n := n) (isw_all (L := L) (n := n) hw) (by rw [List.length_map]; exact hl) (b := sIf (tNotM (mT (mN (c1 dAll) (mCons (mComp [6, 7] (.tp [6, 7]) (mI zipI (mCons (mVar 3) (mCons (mSl (mVar 3) (oSome (mC (.int 1))) (oNone)) (mNil)))) (tYesM) (m2 dLt (mVar 6) (mVar 7))) (mNil))))) (sRaise "BadKind") (sNext))
  rw [all_isw, List.length_map] at F
  unfold m_need_kind defM
  rw [show ([kD L n ws].map (fun d => some (Sl.dat d)) ++ List.replicate 7 none) = [some (.dat (.tup [.int L, .int n, .lst (ws.map wD)])), none, none, none, none, none, none, none] from rfl, F]
  unfold kindOk
  by_cases h : ((decide (L = 2) || decide (L = 3)) && (decide (1 ≤ n) && decide (n ≤ 6) && decide (0 < ws.length))) = true ∧ ws.all (isW L n) = true
  · rw [if_pos h]
    have e1 : mSl (mVar 3) (oSome (mC (.int 1))) (oNone) [some (.dat (.tup [.int L, .int n, .lst (ws.map wD)])), some (.dat (.int L)), some (.dat (.int n)), some (.dat (.lst (ws.map wD))), some (.dat (.bl true)), none, none, none] = .ok (.lst ((ws.drop 1).map wD)) := by
      have := cut_from (ws.map wD) 1
      show Out.ok (D.lst (cutD (ws.map wD) (some 1) none)) = _
      rw [show (1 : Int) = ((1 : Nat) : Int) from rfl, this, List.map_drop]
    have e2 : mN (c1 dAll) (mCons (mComp [6, 7] (.tp [6, 7]) (mI zipI (mCons (mVar 3) (mCons (mSl (mVar 3) (oSome (mC (.int 1))) (oNone)) (mNil)))) (tYesM) (m2 dLt (mVar 6) (mVar 7))) (mNil)) [some (.dat (.tup [.int L, .int n, .lst (ws.map wD)])), some (.dat (.int L)), some (.dat (.int n)), some (.dat (.lst (ws.map wD))), some (.dat (.bl true)), none, none, none] = .ok (.bl (riseW ws)) := by
      refine b1_ok (mComp_all (fun p : List Int × List Int => D.tup [wD p.1, wD p.2]) (fun p => D.bl (HT.lexLt p.1 p.2)) (mI_ok (a2_ok (x := .lst (ws.map wD)) (by rfl) e1) (by show Out.ok (zipL _ _) = _; rw [zipL_map])) (fun p hp => ⟨_, rfl, m2_ok (by rfl) (by rfl) (lt_wD _ _)⟩) (by rw [List.length_zip]; unfold LIM; omega)) (dAll_map _ _)
    rw [sIf_ok (tNot_ok (mT_ok e2))]
    cases hr : riseW ws with
    | true =>
      refine Eq.trans ?_ (if_pos ⟨h.1, h.2, rfl⟩).symm
      rfl
    | false =>
      refine Eq.trans ?_ (if_neg (fun z => by cases z.2.2)).symm
      rfl
  · rw [if_neg h, if_neg (fun z => h ⟨z.1, z.2.1⟩)]
/-- a kind -/
structure Kind (L n : Nat) (ws : List (List Int)) : Prop where
  l : L = 2 ∨ L = 3
  n1 : 1 ≤ n
  n6 : n ≤ 6
  ne : ws ≠ []
  w : ∀ w ∈ ws, w.length = n ∧ ∀ x ∈ w, 0 ≤ x ∧ x < (L : Int)
  pw : ws.Pairwise fun a b => HT.lexLt a b = true
  len : ws.length ≤ 1000
theorem isW_true {L n : Nat} {w : List Int} (h : w.length = n ∧ ∀ x ∈ w, 0 ≤ x ∧ x < (L : Int)) : isW L n w = true := by
  unfold isW
  rw [Bool.and_eq_true, decide_eq_true_iff, List.all_eq_true]
  refine ⟨by omega, fun x hx => ?_⟩
  have := h.2 x hx
  rw [Bool.and_eq_true, decide_eq_true_iff, decide_eq_true_iff]
  exact this
theorem Kind.ok {L n : Nat} {ws : List (List Int)} (k : Kind L n ws) : m_need_kind [kD L n ws] = .ok .non := by
  rw [kind_val ws L n (fun w hw => by have := (k.w w hw).1; have := k.n6; omega) (by have := k.len; omega), if_pos]
  refine ⟨?_, List.all_eq_true.mpr fun w hw => isW_true (k.w w hw), riseW_of k.pw⟩
  unfold kindOk
  have h1 := k.l
  have h2 := k.n1
  have h3 := k.n6
  have h4 := List.length_pos_iff.mpr k.ne
  simp only [Bool.and_eq_true, Bool.or_eq_true, decide_eq_true_iff]
  omega
theorem word_ok {L n : Nat} {ws : List (List Int)} (k : Kind L n ws) {w : List Int} (h : w.length = n ∧ ∀ x ∈ w, 0 ≤ x ∧ x < (L : Int)) : m_need_word [kD L n ws, wD w] = .ok .non := by
  have e := isw_val w L n (by have := k.n6; omega)
  rw [isW_true h] at e
  unfold m_need_word defM
  rw [show ([kD L n ws, wD w].map (fun d => some (Sl.dat d)) ++ List.replicate 0 none) = [some (.dat (kD L n ws)), some (.dat (wD w))] from rfl]
  rw [sSeq_nx (Γ' := [some (.dat (kD L n ws)), some (.dat (wD w))]) (by unfold sDrop; rw [f1_ok (by rfl) k.ok]; rfl)]
  rw [sIf_no (tNot_ok (b := true) (mT_ok (f3_ok (by rfl) (m2_ok (by rfl) (by rfl) dIx_tup0) (m2_ok (by rfl) (by rfl) dIx_tup1) e)))]
theorem word_bad {L n : Nat} {ws : List (List Int)} (k : Kind L n ws) {d : D} (h : m_is_word [d, .int (L : Nat), .int (n : Nat)] = .ok (.bl false)) : m_need_word [kD L n ws, d] = .exc "BadWord" := by
  refine defM_exc ?_
  show sSeq _ _ [some (.dat (kD L n ws)), some (.dat d)] = _
  rw [sSeq_nx (Γ' := [some (.dat (kD L n ws)), some (.dat d)]) (by unfold sDrop; rw [f1_ok (by rfl) k.ok]; rfl)]
  rw [sIf_ok (tNot_ok (b := false) (mT_ok (f3_ok (by rfl) (m2_ok (by rfl) (by rfl) dIx_tup0) (m2_ok (by rfl) (by rfl) dIx_tup1) h)))]
  rfl
theorem word_badk {kd d : D} (h : m_need_kind [kd] = .exc "BadKind") : m_need_word [kd, d] = .exc "BadKind" := by
  refine defM_exc (sSeq_exc ?_)
  unfold sDrop
  rw [f1_ok (x := kd) (by rfl) h]
  rfl
theorem ix2_kD {L n : Int} {ws : List (List Int)} : dIx (kD L n ws) (.int 2) = .ok (wsD ws) := rfl

/-! ### the law's own words and kinds -/
theorem dAdd_lst {xs ys : List D} (h : xs.length + ys.length ≤ LIM) : dAdd (.lst xs) (.lst ys) = .ok (.lst (xs ++ ys)) := by
  show (if _ then _ else _) = _
  rw [if_pos h]
theorem dAdd_w (w v : List Int) (h : w.length + v.length ≤ 1000) : dAdd (wD w) (wD v) = .ok (wD (w ++ v)) := by
  show (if (w.map D.int).length + (v.map D.int).length ≤ LIM then Out.ok (D.tup (w.map D.int ++ v.map D.int)) else .bad) = _
  rw [if_pos (by rw [List.length_map, List.length_map]; unfold LIM; omega), ← List.map_append]
  rfl
def nxt (L : Nat) (w : List Int) : List (List Int) := (List.range L).map fun l => w ++ [((l : Nat) : Int)]
theorem nxt_len (L : Nat) : ∀ l : List (List Int), (l.flatMap (nxt L)).length = l.length * L
  | [] => by simp
  | a :: l => by
    unfold nxt
    rw [List.flatMap_cons, List.length_append, List.length_map, List.length_range, List.length_cons, Nat.succ_mul]
    have := nxt_len L l
    unfold nxt at this
    omega
theorem pow_le (L n : Nat) (hL : L ≤ 3) (hn : n ≤ 6) : L ^ n ≤ 729 := by
  calc L ^ n ≤ 3 ^ n := Nat.pow_le_pow_left hL n
    _ ≤ 3 ^ 6 := Nat.pow_le_pow_right (by decide) hn
    _ = 729 := by decide
theorem words_val (L n : Nat) (hL : L ≤ 3) (hn : n ≤ 6) : m_L_words [.int (L : Nat), .int (n : Nat)] = .ok (wsD (allw L n)) := by
  have G : Goes (sFor (.nm 3) (mI rng1 (mCons (mVar 1) (mNil))) (sSeq (sSet 4 (mN dLst (mNil))) (sSeq (sFor (.nm 5) (mItems (mVar 2)) (sSet 4 (m2 dAdd (mVar 4) (mComp [6] (.nm 6) (mI rng1 (mCons (mVar 0) (mNil))) (tYesM) (m2 dAdd (mVar 5) (mN dTup (mCons (mVar 6) (mNil)))))))) (sSet 2 (mVar 4)))))
      [some (.dat (.int (L : Nat))), some (.dat (.int (n : Nat))), some (.dat (wsD [[]])), none, none, none, none] (fun Γ => ∃ a b c : Option Sl, Γ = [some (.dat (.int (L : Nat))), some (.dat (.int (n : Nat))), some (.dat (wsD (allw L n))), a, b, c, none]) := by
    refine Goes.range (n := n) (fun j Γ => ∃ a b c : Option Sl, Γ = [some (.dat (.int (L : Nat))), some (.dat (.int (n : Nat))), some (.dat (wsD (allw L j))), a, b, c, none]) (mI_ok (a1_ok (by rfl)) (rng1_nat (by omega))) ⟨none, none, none, rfl⟩ ?_
    rintro j Γ hj ⟨a, b, c, rfl⟩
    have hlen := allw_len L j
    have hp := pow_le L j hL (by omega)
    simp only [List.set_cons_zero, List.set_cons_succ]
    refine .seq (sSet_ok (d := wsD []) (by rfl)) ?_
    simp only [List.set_cons_zero, List.set_cons_succ]
    refine .seq' (Q := fun Γ => ∃ z : Option Sl, Γ = [some (.dat (.int (L : Nat))), some (.dat (.int (n : Nat))), some (.dat (wsD (allw L j))), some (.dat (.int (j : Nat))), some (.dat (wsD (allw L (j + 1)))), z, none]) ?_ ?_
    · have := Goes.for (p := .nm 5) (it := mItems (mVar 2)) (b := sSet 4 (m2 dAdd (mVar 4) (mComp [6] (.nm 6) (mI rng1 (mCons (mVar 0) (mNil))) (tYesM) (m2 dAdd (mVar 5) (mN dTup (mCons (mVar 6) (mNil)))))))
        (Γ := [some (.dat (.int (L : Nat))), some (.dat (.int (n : Nat))), some (.dat (wsD (allw L j))), some (.dat (.int (j : Nat))), some (.dat (wsD [])), c, none]) (ds := (allw L j).map wD)
        (fun i Γ => ∃ z : Option Sl, Γ = [some (.dat (.int (L : Nat))), some (.dat (.int (n : Nat))), some (.dat (wsD (allw L j))), some (.dat (.int (j : Nat))), some (.dat (wsD (((allw L j).take i).flatMap (nxt L)))), z, none])
        (by rfl) ⟨c, rfl⟩ (fun i d Γ hd hI => by
          obtain ⟨z, rfl⟩ := hI
          rw [List.getElem?_map] at hd
          cases hw : (allw L j)[i]? with
          | none => rw [hw] at hd; cases hd
          | some w =>
            rw [hw] at hd
            cases hd
            have hmem := List.mem_of_getElem? hw
            have hwl := (allw_mem.mp hmem).1
            refine ⟨_, rfl, ?_⟩
            simp only [List.set_cons_zero, List.set_cons_succ]
            refine .end (sSet_ok (d := wsD (((allw L j).take (i + 1)).flatMap (nxt L))) ?_) ⟨some (.dat (wD w)), rfl⟩
            have ec : mComp [6] (.nm 6) (mI rng1 (mCons (mVar 0) (mNil))) (tYesM) (m2 dAdd (mVar 5) (mN dTup (mCons (mVar 6) (mNil)))) [some (.dat (.int (L : Nat))), some (.dat (.int (n : Nat))), some (.dat (wsD (allw L j))), some (.dat (.int (j : Nat))), some (.dat (wsD (((allw L j).take i).flatMap (nxt L)))), some (.dat (wD w)), none] = .ok (wsD (nxt L w)) := by
              unfold wsD nxt
              rw [List.map_map]
              refine mComp_all (fun l => D.int ((l : Nat) : Int)) _ (mI_ok (a1_ok (by rfl)) (rng1_nat (by omega))) (fun l hl => ⟨_, rfl, ?_⟩) (by rw [List.length_range]; unfold LIM; omega)
              exact m2_ok (by rfl) (mN_ok (a1_ok (by rfl)) (by rfl)) (dAdd_w w [((l : Nat) : Int)] (by rw [hwl]; simp; omega))
            refine m2_ok (by rfl) ec ?_
            have e2 : (allw L j).take (i + 1) = (allw L j).take i ++ [w] := by
              rw [List.take_succ, hw]
              rfl
            have l1 := nxt_len L ((allw L j).take i)
            rw [List.length_take] at l1
            have l2 : min i (allw L j).length * L ≤ 729 * 3 := Nat.mul_le_mul (by omega) hL
            unfold wsD
            rw [dAdd_lst, e2, List.flatMap_append, List.map_append]
            · simp
            · rw [List.length_map, List.length_map, l1]
              unfold nxt
              rw [List.length_map, List.length_range]
              unfold LIM
              omega)
      rw [List.length_map, List.take_of_length_le (Nat.le_refl _)] at this
      exact this
    · rintro Γ ⟨z, rfl⟩
      exact .end (sSet_ok (by rfl)) ⟨_, _, _, rfl⟩
  obtain ⟨Γ', hG, a, b, c, rfl⟩ := G
  refine defM_rt ?_
  show sSeq _ _ [some (.dat (.int (L : Nat))), some (.dat (.int (n : Nat))), none, none, none, none, none] = _
  rw [sSeq_nx (Γ' := [some (.dat (.int (L : Nat))), some (.dat (.int (n : Nat))), some (.dat (wsD [[]])), none, none, none, none]) (by rfl), sSeq_nx hG]
  rfl
theorem gd_w (w : List Int) (n : Nat) : gd (n + 1) (wD w) = true := gd_tup n w
theorem gd_ws (ws : List (List Int)) : gd 8 (wsD ws) = true := by
  show (ws.map wD).all (gd 7) = true
  rw [List.all_eq_true]
  intro x hx
  obtain ⟨w, _, rfl⟩ := List.mem_map.mp hx
  exact gd_w w 6
theorem eq_nil (ws : List (List Int)) : dEq (wsD ws) (.lst []) = .ok (.bl (decide (ws = []))) := by
  unfold dEq
  rw [if_pos (by rw [gd_ws]; rfl)]
  congr 2
  unfold eqv wsD
  cases ws <;> simp [D.py, D.pyL, PyData.eqv, PyData.eqvAll]
theorem map_getD {α : Type} (z : α) (xs : List α) : (List.range xs.length).map (fun i => xs.getD i z) = xs := by
  apply List.ext_getElem?
  intro i
  rw [List.getElem?_map]
  by_cases h : i < xs.length
  · simp [h, List.getD]
  · simp [h]
theorem kind_drawn (more : Int) (most : Nat) (h0 : 0 ≤ more) (h2 : 2 ≤ most) (h5 : most ≤ 5) : ∃ (L n : Nat) (ws : List (List Int)), m_L_kind [.int more, .int (most : Nat)] = .ok (kD L n ws) ∧ Kind L n ws ∧ n ≤ most := by
  obtain ⟨L, hL, eL, hLc⟩ : ∃ L : Nat, (2 : Int) + (if decide (more % 4 = 0) = true then (1 : Int) else 0) = L ∧ dInt (.bl (decide (more % 4 = 0))) = .ok (.int (L - 2)) ∧ (L = 2 ∨ L = 3) := by
    by_cases h : more % 4 = 0
    · exact ⟨3, by rw [decide_eq_true h]; rfl, by rw [decide_eq_true h]; rfl, .inr rfl⟩
    · exact ⟨2, by rw [decide_eq_false h]; rfl, by rw [decide_eq_false h]; rfl, .inl rfl⟩
  have g1 : dMod (.int more) (.int 4) = .ok (.int (more % 4)) := dMod_ok (by omega)
  have g2 := dEq_int (more % 4) 0
  have g3 : dDiv (.int more) (.int 4) = .ok (.int (more / 4)) := dDiv_64 (by omega) (by omega)
  obtain ⟨md, emd, hmd1, hmd2⟩ : ∃ md : Nat, dIx (.lst [.int (most : Nat), .int ((most : Int) - 1)]) (.int ((L : Int) - 2)) = .ok (.int (md : Nat)) ∧ 1 ≤ md ∧ md ≤ most := by
    rcases hLc with rfl | rfl
    · exact ⟨most, dIx_lst (j := 0) rfl rfl, by omega, by omega⟩
    · refine ⟨most - 1, ?_, by omega, by omega⟩
      have e : ((most - 1 : Nat) : Int) = (most : Int) - 1 := by omega
      rw [e]
      exact dIx_lst (xs := [.int (most : Nat), .int ((most : Int) - 1)]) (j := 1) rfl rfl
  obtain ⟨n, hn, hn1, hn2⟩ : ∃ n : Nat, 1 + more / 4 % (md : Nat) = n ∧ 1 ≤ n ∧ n ≤ most := by
    have h1 := Int.emod_nonneg (more / 4) (b := (md : Nat)) (by omega)
    have h2 := Int.emod_lt_of_pos (more / 4) (b := (md : Nat)) (by omega)
    exact ⟨(1 + more / 4 % (md : Nat)).toNat, by omega, by omega, by omega⟩
  have g4 : dMod (.int (more / 4)) (.int (md : Nat)) = .ok (.int (more / 4 % (md : Nat))) := dMod_ok (by omega)
  have ew := words_val L n (by omega) (by omega)
  have hrl := allw_len L n
  have hp := pow_le L n (by omega) (by omega)
  have hpos : 0 < L ^ n := Nat.pow_pos (by omega)
  obtain ⟨row, hrow⟩ : ∃ row, row = allw L n := ⟨_, rfl⟩
  rw [← hrow] at ew hrl
  have g5 : dDiv (.int more) (.int 64) = .ok (.int (more / 64)) := dDiv_64 (by omega) (by omega)
  have g6 : dMod (.int (more / 64)) (.int 6) = .ok (.int (more / 64 % 6)) := dMod_ok (by omega)
  have g7 : dDiv (.int more) (.int 512) = .ok (.int (more / 512)) := dDiv_64 (by omega) (by omega)
  have g8 : dMod (.int (more / 512)) (.int 3) = .ok (.int (more / 512 % 3)) := dMod_ok (by omega)
  have g9 : dDiv (.int more) (.int 2048) = .ok (.int (more / 2048)) := dDiv_64 (by omega) (by omega)
  obtain ⟨c, hc, ec⟩ : ∃ c : Int, 0 < c ∧ dIx (.lst [.int 2, .int 3, .int 6]) (.int (more / 512 % 3)) = .ok (.int c) := by
    obtain ⟨d, hd, ed⟩ := dIx_mem (xs := [D.int 2, .int 3, .int 6]) (r := more / 512 % 3) (by omega) (by simp; omega)
    simp only [List.mem_cons, List.not_mem_nil, or_false] at hd
    rcases hd with rfl | rfl | rfl
    · exact ⟨2, by omega, ed⟩
    · exact ⟨3, by omega, ed⟩
    · exact ⟨6, by omega, ed⟩
  obtain ⟨St, hSt⟩ : ∃ St : List (List Int) → FL.Env, St = fun ws => [some (.dat (.int more)), some (.dat (.int (most : Nat))), some (.dat (.int (L : Nat))), some (.dat (.int (n : Nat))), some (.dat (wsD row)), some (.dat (.int (more / 64 % 6))), some (.dat (wsD ws)), none, none] := ⟨_, rfl⟩
  have way : ∀ (r : Int) (ws ws' : List (List Int)) (m : FL.Env → Out D), ws.Sublist row → ws'.Sublist row → m (St ws) = .ok (wsD ws') → ∃ ws2, sIf (mT (m2 dEq (mVar 5) (mC (.int r)))) (sSet 6 m) sNext (St ws) = .nx (St ws2) ∧ ws2.Sublist row := fun r ws ws' m h1 h2 hm => by
    have e := dEq_int (more / 64 % 6) r
    have hv : mVar 5 (St ws) = .ok (.int (more / 64 % 6)) := by rw [hSt]; rfl
    rw [sIf_ok (mT_ok (m2_ok hv (by rfl) e))]
    by_cases h : more / 64 % 6 = r
    · refine ⟨ws', ?_, h2⟩
      rw [if_pos (by rw [decide_eq_true h]), sSet_ok hm]
      rw [hSt]
      rfl
    · refine ⟨ws, ?_, h1⟩
      rw [if_neg (by rw [decide_eq_false h]; exact Bool.false_ne_true)]
      rfl
  have vr : ∀ ws, mVar 4 (St ws) = .ok (wsD row) := fun ws => by rw [hSt]; rfl
  have vm : ∀ ws, mVar 0 (St ws) = .ok (.int more) := fun ws => by rw [hSt]; rfl
  have ir : ∀ ws, mItems (mVar 4) (St ws) = .ok (row.map wD) := fun ws => by unfold mItems; rw [vr]; rfl
  have hrmem : ∀ w ∈ row, w.length = n ∧ ∀ x ∈ w, 0 ≤ x ∧ x < (L : Int) := fun w hw => allw_mem.mp (hrow ▸ hw)
  have wsub : ∀ ws, wipeE (St ws) [8] = St ws := fun ws => by rw [hSt]; rfl
  have b8 : ∀ ws w, bindP (.nm 8) (wD w) (St ws) = some [some (.dat (.int more)), some (.dat (.int (most : Nat))), some (.dat (.int (L : Nat))), some (.dat (.int (n : Nat))), some (.dat (wsD row)), some (.dat (.int (more / 64 % 6))), some (.dat (wsD ws)), none, some (.dat (wD w))] := fun ws w => by rw [hSt]; rfl
  have w1 : ∀ ws, ws.Sublist row → ∃ ws2, sIf (mT (m2 dEq (mVar 5) (mC (.int 1)))) (sSet 6 (mN dLst (mCons (m2 dIx (mVar 4) (m2 dMod (m2 dDiv (mVar 0) (mC (.int 2048))) (mN (c1 dLen) (mCons (mVar 4) (mNil))))) (mNil)))) sNext (St ws) = .nx (St ws2) ∧ ws2.Sublist row := fun ws h => by
    have q1 := Int.emod_nonneg (more / 2048) (b := (row.length : Nat)) (by omega)
    have q2 := Int.emod_lt_of_pos (more / 2048) (b := (row.length : Nat)) (by omega)
    refine way 1 ws [row.getD (more / 2048 % (row.length : Nat)).toNat []] _ h ?_ ?_
    · refine List.singleton_sublist.mpr ?_
      have : (more / 2048 % (row.length : Nat)).toNat < row.length := by omega
      simp [List.getD, this]
    · exact mN_ok (a1_ok (m2_ok (vr ws) (m2_ok (m2_ok (vm ws) (by rfl) g9) (b1_ok (vr ws) (len_wsD row)) (dMod_ok (by omega))) (ix_mapAt wD [] q1 q2))) (by rfl)
  have w2 : ∀ ws, ws.Sublist row → ∃ ws2, sIf (mT (m2 dEq (mVar 5) (mC (.int 2)))) (sSet 6 (mComp [8] (.nm 8) (mItems (mVar 4)) (mT (m2 dEq (m1 dLenSet (mVar 8)) (mC (.int 1)))) (mVar 8))) sNext (St ws) = .nx (St ws2) ∧ ws2.Sublist row := fun ws h => by
    refine way 2 ws (row.filter fun w => decide (((dis w).length : Int) = 1)) _ h List.filter_sublist ?_
    refine mComp_ok wD _ wD (ir ws) (fun w hw => ⟨_, by rw [wsub]; exact b8 ws w, ?_, fun _ => by rfl⟩) (by unfold LIM; omega)
    have hl := (hrmem w hw).1
    refine mT_ok (m2_ok (m1_ok (x := wD w) (by rfl) (d := .int ((dis w).length : Nat)) ?_) (by rfl) (dEq_int _ _))
    show onIntsT _ (.tup (w.map D.int)) = _
    rw [onIntsT_map, if_pos (by omega)]
  have w3 : ∀ ws, ws.Sublist row → ∃ ws2, sIf (mT (m2 dEq (mVar 5) (mC (.int 3)))) (sSet 6 (mComp [8] (.nm 8) (mItems (mVar 4)) (mT (m2 dEq (m2 dMod (mN (c1 dSumT) (mCons (mVar 8) (mNil))) (mC (.int 2))) (m2 dMod (m2 dDiv (mVar 0) (mC (.int 2048))) (mC (.int 2))))) (mVar 8))) sNext (St ws) = .nx (St ws2) ∧ ws2.Sublist row := fun ws h => by
    refine way 3 ws (row.filter fun w => decide (w.sum % 2 = more / 2048 % 2)) _ h List.filter_sublist ?_
    refine mComp_ok wD _ wD (ir ws) (fun w hw => ⟨_, by rw [wsub]; exact b8 ws w, ?_, fun _ => by rfl⟩) (by unfold LIM; omega)
    refine mT_ok (m2_ok (m2_ok (b1_ok (x := wD w) (o := .ok (.int w.sum)) (by rfl) ?_) (by rfl) (dMod_ok (by omega))) (m2_ok (m2_ok (by rfl) (by rfl) g9) (by rfl) (dMod_ok (by omega))) (dEq_int _ _))
    show onIntsT _ (.tup (w.map D.int)) = _
    rw [onIntsT_map]
  have w4 : ∀ ws, ws.Sublist row → ∃ ws2, sIf (mT (m2 dEq (mVar 5) (mC (.int 4)))) (sSet 6 (mComp [8] (.nm 8) (mItems (mVar 4)) (mT (m2 dEq (mN (c1 dList) (mCons (mVar 8) (mNil))) (mN (c1 dSortedT) (mCons (mVar 8) (mNil))))) (mVar 8))) sNext (St ws) = .nx (St ws2) ∧ ws2.Sublist row := fun ws h => by
    refine way 4 ws (row.filter fun w => decide (w = srt w)) _ h List.filter_sublist ?_
    refine mComp_ok wD _ wD (ir ws) (fun w hw => ⟨_, by rw [wsub]; exact b8 ws w, ?_, fun _ => by rfl⟩) (by unfold LIM; omega)
    have hl := (hrmem w hw).1
    refine mT_ok (m2_ok (b1_ok (x := wD w) (o := .ok (.lst (w.map D.int))) (by rfl) (by rfl)) (b1_ok (x := wD w) (o := .ok (.lst ((srt w).map D.int))) (by rfl) ?_) (dEq_ints _ _))
    show onIntsT _ (.tup (w.map D.int)) = _
    rw [onIntsT_map, if_pos (by omega)]
  have w5 : ∀ ws, ws.Sublist row → ∃ ws2, sIf (mT (m2 dEq (mVar 6) (mN dLst (mNil)))) (sSet 6 (mN dLst (mCons (m2 dIx (mVar 4) (mC (.int 0))) (mNil)))) (sNext) (St ws) = .nx (St ws2) ∧ ws2.Sublist row ∧ ws2 ≠ [] := fun ws h => by
    have hv : mVar 6 (St ws) = .ok (wsD ws) := by rw [hSt]; rfl
    rw [sIf_ok (mT_ok (m2_ok hv (by rfl) (eq_nil ws)))]
    by_cases h0 : ws = []
    · refine ⟨[row.getD 0 []], ?_, List.singleton_sublist.mpr ?_, by simp⟩
      · rw [if_pos (by rw [decide_eq_true h0]), sSet_ok (mN_ok (a1_ok (m2_ok (vr ws) (by rfl) (ix_map wD [] (j := 0) (by omega)))) (by rfl)), hSt]
        rfl
      · have : 0 < row.length := by omega
        simp [List.getD, this]
    · refine ⟨ws, ?_, h, h0⟩
      rw [if_neg (by rw [decide_eq_false h0]; exact Bool.false_ne_true)]
      rfl
  -- the first choice
  obtain ⟨ws0, e0, s0⟩ : ∃ ws, mComp [7, 8] (.tp [7, 8]) (mI enumI (mCons (mVar 4) (mNil))) (mT (m2 dEq (m2 dMod (mN (arg 2 m_L_drawn) (mCons (mVar 0) (mCons (mVar 7) (mNil)))) (m2 dIx (mN dLst (mCons (mC (.int 2)) (mCons (mC (.int 3)) (mCons (mC (.int 6)) (mNil))))) (m2 dMod (m2 dDiv (mVar 0) (mC (.int 512))) (mC (.int 3))))) (mC (.int 0)))) (mVar 8) [some (.dat (.int more)), some (.dat (.int (most : Nat))), some (.dat (.int (L : Nat))), some (.dat (.int (n : Nat))), some (.dat (wsD row)), some (.dat (.int (more / 64 % 6))), none, none, none] = .ok (wsD ws) ∧ ws.Sublist row := by
    obtain ⟨dv, hdv⟩ : ∃ dv : Nat → Int, ∀ i, i < 1000000 → m_L_drawn [.int more, .int (i : Nat)] = .ok (.int (dv i)) := by
      refine ⟨fun i => match m_L_drawn [.int more, .int (i : Nat)] with | .ok (.int v) => v | _ => 0, fun i hi => ?_⟩
      obtain ⟨v, ev, _, _⟩ := drawn_val more (i : Nat) (by omega) (by omega)
      simp only [ev]
    refine ⟨((List.range row.length).filter fun i => decide (dv i % c = 0)).map fun i => row.getD i [], ?_, ?_⟩
    · unfold wsD
      rw [List.map_map]
      refine mComp_ok (fun i => D.tup [.int ((i : Nat) : Int), wD (row.getD i [])]) _ _ (mI_ok (a1_ok (by rfl)) (enum_map wD [] row)) (fun i hi => ⟨_, rfl, ?_, fun _ => by rfl⟩) (by rw [List.length_range]; unfold LIM; omega)
      have hi := List.mem_range.mp hi
      exact mT_ok (m2_ok (m2_ok (f2_ok (by rfl) (by rfl) (hdv i (by omega))) (m2_ok (mN_ok (a3_ok (by rfl) (by rfl) (by rfl)) (by rfl)) (m2_ok (m2_ok (by rfl) (by rfl) g7) (by rfl) g8) ec) (dMod_ok hc)) (by rfl) (dEq_int _ _))
    · have := (List.filter_sublist (p := fun i => decide (dv i % c = 0)) (l := List.range row.length)).map fun i => row.getD i []
      rw [map_getD] at this
      exact this
  obtain ⟨ws1, e1, s1⟩ := w1 ws0 s0
  obtain ⟨ws2, e2, s2⟩ := w2 ws1 s1
  obtain ⟨ws3, e3, s3⟩ := w3 ws2 s2
  obtain ⟨ws4, e4, s4⟩ := w4 ws3 s3
  obtain ⟨ws5, e5, s5, hne⟩ := w5 ws4 s4
  refine ⟨L, n, ws5, ?_, ⟨hLc, hn1, by omega, hne, fun w hw => hrmem w (s5.subset hw), (hrow ▸ allw_pw L n).sublist s5, by have := s5.length_le; omega⟩, hn2⟩
  refine defM_rt ?_
  show sSeq _ _ [some (.dat (.int more)), some (.dat (.int (most : Nat))), none, none, none, none, none, none, none] = _
  have hL2 : (2 : Int) + (L - 2) = L := by omega
  rw [sSeq_nx (Γ' := [some (.dat (.int more)), some (.dat (.int (most : Nat))), some (.dat (.int (L : Nat))), none, none, none, none, none, none]) (by simp only [sSeq, sSet, sIf, sRet, sDrop, sOwn, sApp, sExtd, sFrz, sPar, sTup, sFor, bindP, setAll, sRaise, sNext, SO.ofO, SO.ofB, SO.ofA, FL.mN, mCons, mNil, mVar, mC, FL.c1, FL.c2, FL.m1, FL.m2, Out.bind, arg, frzE, ownAt, mT, toB, tAndM, tOrM, tNotM, tYesM, mIf, mAnd, mOr, dNot, mSl, oNone, oSome, mI, mItems, items, mOIx, mOItems, mL, List.map_cons, List.map_nil, List.replicate, List.cons_append, List.nil_append, List.getElem?_cons_zero, List.getElem?_cons_succ, List.set_cons_succ, List.set_cons_zero, List.length_cons, List.length_nil, Nat.zero_add, Nat.reduceAdd, if_true, reduceCtorEq, wipeE, reduceIte, Bool.not_true, Bool.not_false, Bool.false_eq_true, g1, g2, eL, dAdd_int, hL2])]
  rw [sSeq_nx (Γ' := [some (.dat (.int more)), some (.dat (.int (most : Nat))), some (.dat (.int (L : Nat))), some (.dat (.int (n : Nat))), none, none, none, none, none]) (by simp only [sSeq, sSet, sIf, sRet, sDrop, sOwn, sApp, sExtd, sFrz, sPar, sTup, sFor, bindP, setAll, sRaise, sNext, SO.ofO, SO.ofB, SO.ofA, FL.mN, mCons, mNil, mVar, mC, FL.c1, FL.c2, FL.m1, FL.m2, Out.bind, arg, frzE, ownAt, mT, toB, tAndM, tOrM, tNotM, tYesM, mIf, mAnd, mOr, dNot, mSl, oNone, oSome, mI, mItems, items, mOIx, mOItems, mL, List.map_cons, List.map_nil, List.replicate, List.cons_append, List.nil_append, List.getElem?_cons_zero, List.getElem?_cons_succ, List.set_cons_succ, List.set_cons_zero, List.length_cons, List.length_nil, Nat.zero_add, Nat.reduceAdd, if_true, reduceCtorEq, wipeE, reduceIte, Bool.not_true, Bool.not_false, Bool.false_eq_true, dLst, LIM, Nat.reduceLeDiff, dSub_int, emd, g3, g4, dAdd_int, hn])]
  rw [sSeq_nx (sSet_ok (f2_ok (by rfl) (by rfl) ew))]
  simp only [List.set_cons_zero, List.set_cons_succ]
  rw [sSeq_nx (sSet_ok (m2_ok (m2_ok (by rfl) (by rfl) g5) (by rfl) g6))]
  simp only [List.set_cons_zero, List.set_cons_succ]
  rw [sSeq_nx (Γ' := St ws0) ((sSet_ok e0).trans (by rw [hSt]; rfl)), sSeq_nx e1, sSeq_nx e2, sSeq_nx e3, sSeq_nx e4, sSeq_nx e5, hSt]
  rfl

theorem times_val (n t0 : Nat) (h : 1 ≤ t0) : ∃ t : Nat, t ≤ t0 ∧ ∃ d, dMin2 (.int (t0 : Nat)) (.int (n : Nat)) = .ok d ∧ dMax2 (.int 1) d = .ok (.int (t : Nat)) := by
  have hk : ∃ m : Nat, m ≤ t0 ∧ dMin2 (.int (t0 : Nat)) (.int (n : Nat)) = .ok (.int (m : Nat)) := by
    by_cases h : n < t0
    · refine ⟨n, by omega, ?_⟩
      show Out.ok (D.int (if (n : Int) < (t0 : Nat) then (n : Int) else (t0 : Nat))) = _
      rw [if_pos (by omega)]
    · refine ⟨t0, by omega, ?_⟩
      show Out.ok (D.int (if (n : Int) < (t0 : Nat) then (n : Int) else (t0 : Nat))) = _
      rw [if_neg (by omega)]
  obtain ⟨m, hm5, em⟩ := hk
  by_cases h : 1 < m
  · refine ⟨m, by omega, _, em, ?_⟩
    show Out.ok (D.int (if (m : Int) > 1 then (m : Int) else 1)) = _
    rw [if_pos (by omega)]
  · refine ⟨1, by omega, _, em, ?_⟩
    show Out.ok (D.int (if (m : Int) > 1 then (m : Int) else 1)) = _
    rw [if_neg (by omega)]
    rfl

/-! ### what is no word -/
theorem isw_not {d : D} {L n : Int} (h : dIsi d (.ty "tuple") = .ok (.bl false)) : m_is_word [d, .int L, .int n] = .ok (.bl false) := by
  refine defM_rt ?_
  show sSeq _ _ [some (.dat d), some (.dat (.int L)), some (.dat (.int n)), none] = _
  exact sSeq_rt (d := .bl false) (by simp only [sSeq, sSet, sIf, sRet, sDrop, sOwn, sApp, sExtd, sFrz, sPar, sTup, sFor, bindP, setAll, sRaise, sNext, SO.ofO, SO.ofB, SO.ofA, FL.mN, mCons, mNil, mVar, mC, FL.c1, FL.c2, FL.m1, FL.m2, Out.bind, arg, frzE, ownAt, mT, toB, tAndM, tOrM, tNotM, tYesM, mIf, mAnd, mOr, dNot, mSl, oNone, oSome, mI, mItems, items, mOIx, mOItems, mL, List.map_cons, List.map_nil, List.replicate, List.cons_append, List.nil_append, List.getElem?_cons_zero, List.getElem?_cons_succ, List.set_cons_succ, List.set_cons_zero, List.length_cons, List.length_nil, Nat.zero_add, Nat.reduceAdd, if_true, reduceCtorEq, wipeE, reduceIte, Bool.not_true, Bool.not_false, Bool.false_eq_true, h])
theorem rep_flat {α : Type} (d : α) : ∀ n : Nat, (List.replicate n [d]).flatten = List.replicate n d
  | 0 => rfl
  | n + 1 => by
    rw [List.replicate_succ, List.flatten_cons, rep_flat d n, List.replicate_succ]
    rfl
theorem mul_tup (d : D) (n : Nat) (h1 : 1 ≤ n) (h6 : n ≤ 6) : dMulX (.tup [d]) (.int (n : Nat)) = .ok (.tup (List.replicate n d)) := by
  show (if ((n : Nat) : Int) = 1 then Out.ok (D.tup [d]) else dMul (.tup [d]) (.int (n : Nat))) = _
  by_cases h : n = 1
  · subst h
    rfl
  · rw [if_neg (by omega)]
    show (if [d] ≠ [] ∧ 2 ≤ ((n : Nat) : Int) ∧ ((n : Nat) : Int) ≤ 1000 ∧ [d].length ≤ 1000 then Out.ok (D.tup (List.replicate ((n : Nat) : Int).toNat [d]).flatten) else .bad) = _
    rw [if_pos ⟨by simp, by omega, by omega, by simp⟩, Int.toNat_natCast, rep_flat]
theorem mul_str (n : Nat) (h1 : 1 ≤ n) (h6 : n ≤ 6) : dMulX (.str "0") (.int (n : Nat)) = .ok (.str (repS "0" n)) := by
  show (if 1 ≤ ((n : Nat) : Int) ∧ ((n : Nat) : Int) ≤ 1000 ∧ 1 ≤ Str.length "0" ∧ Str.length "0" ≤ 1000 then Out.ok (D.str (repS "0" ((n : Nat) : Int).toNat)) else .bad) = _
  rw [if_pos ⟨by omega, by omega, by decide, by decide⟩, Int.toNat_natCast]
theorem isw_true {n : Nat} {L : Int} (h1 : 1 ≤ n) (h6 : n ≤ 6) : m_is_word [.tup (List.replicate n (.bl true)), .int L, .int (n : Nat)] = .ok (.bl false) := by
  refine defM_rt ?_
  show sSeq _ _ [some (.dat (.tup (List.replicate n (.bl true)))), some (.dat (.int L)), some (.dat (.int (n : Nat))), none] = _
  have e1 : dIsi (.tup (List.replicate n (.bl true))) (.ty "tuple") = .ok (.bl true) := rfl
  have e2 : dLen (.tup (List.replicate n (.bl true))) = .ok (.int (n : Nat)) := by
    show Out.ok _ = _
    rw [List.length_replicate]
  have e3 := dNe_int (n : Nat) (n : Nat)
  rw [decide_eq_true rfl] at e3
  rw [sSeq_nx (sIf_no (tOr_ok (x := false) (tNot_ok (b := true) (mT_ok (b2_ok (by rfl) (by rfl) e1))) (fun _ => mT_ok (m2_ok (b1_ok (by rfl) e2) (by rfl) e3))))]
  have er : List.replicate n (D.bl true) = (List.replicate n ()).map fun _ => D.bl true := by rw [List.map_replicate]
  refine sRet_ok (b1_ok (mComp_all (xs := List.replicate n ()) (fun _ => D.bl true) (fun _ => D.bl (true && false)) (by rw [← er]; rfl) (fun x hx => ⟨_, rfl, mAnd_bl (by rfl) (fun _ => mAnd_bl (x := false) (y := false) (by rfl) (fun h => by cases h))⟩) (by rw [List.length_replicate]; unfold LIM; omega)) ((dAll_map _ _).trans ?_))
  obtain ⟨m, rfl⟩ : ∃ m, n = m + 1 := ⟨n - 1, by omega⟩
  rw [List.replicate_succ, List.all_cons]
  rfl
theorem isW_len {L n : Int} {w : List Int} (h : (w.length : Int) ≠ n) : isW L n w = false := by
  unfold isW
  rw [decide_eq_false h]
  rfl
theorem isW_rep {L n : Int} {m : Nat} {x : Int} (h1 : 1 ≤ m) (h : ¬ (0 ≤ x ∧ x < L)) : isW L n (List.replicate m x) = false := by
  unfold isW
  rw [Bool.and_eq_false_iff]
  right
  rw [List.all_eq_false]
  refine ⟨x, by simp; omega, ?_⟩
  rw [Bool.and_eq_true, decide_eq_true_iff, decide_eq_true_iff]
  exact h
theorem riseW_pw : ∀ {ws : List (List Int)}, riseW ws = true → ws.Pairwise fun a b => HT.lexLt a b = true
  | [], _ => List.Pairwise.nil
  | [x], _ => List.pairwise_singleton _ _
  | x :: y :: xs, h => by
    have h2 : HT.lexLt x y = true ∧ riseW (y :: xs) = true := by
      unfold riseW at h ⊢
      simp only [List.drop_succ_cons, List.drop_zero] at h ⊢
      rw [List.zip_cons_cons, List.all_cons, Bool.and_eq_true] at h
      exact h
    have ih := riseW_pw h2.2
    refine List.pairwise_cons.mpr ⟨fun a ha => ?_, ih⟩
    rcases List.mem_cons.mp ha with rfl | ha
    · exact h2.1
    · exact lex_trans h2.1 ((List.pairwise_cons.mp ih).1 a ha)
theorem kd_bad {ws : List (List Int)} {L n : Int} (hw : ∀ w ∈ ws, w.length ≤ 1000) (hl : ws.length ≤ 10000) (h : kindOk L n ws = false ∨ ws.all (isW L n) = false ∨ riseW ws = false) : m_need_kind [kD L n ws] = .exc "BadKind" := by
  rw [kind_val ws L n hw hl, if_neg]
  rintro ⟨h1, h2, h3⟩
  rcases h with h | h | h
  · rw [h] at h1; cases h1
  · rw [h] at h2; cases h2
  · rw [h] at h3; cases h3
theorem one_bad {d : D} {L n : Int} (h : m_is_word [d, .int L, .int n] = .ok (.bl false)) : m_need_kind [.tup [.int L, .int n, .lst [d]]] = .exc "BadKind" :=
  kind_bad (q := fun _ => false) (fun x hx => by rw [List.mem_singleton] at hx; rw [hx]; exact h) (by simp) (fun z => by cases z.2)
theorem Goes.mono {m : FL.Env → SO} {Γ : FL.Env} {P Q : FL.Env → Prop} (h : Goes m Γ P) (k : ∀ Γ, P Γ → Q Γ) : Goes m Γ Q := by
  obtain ⟨Γ', e, p⟩ := h
  exact ⟨Γ', e, k Γ' p⟩
theorem dAdd_lit {xs ys : List D} (h : xs.length + ys.length ≤ 16777216) : dAdd (.lst xs) (.lst ys) = .ok (.lst (xs ++ ys)) := dAdd_lst h

theorem sIf_yes {c : FL.Env → Out Bool} {a b : FL.Env → SO} {Γ : FL.Env} {o : SO} (h : c Γ = .ok true) (k : a Γ = o) : sIf c a b Γ = o := (sIf_ok h).trans ((if_pos rfl).trans k)
theorem drop_ok {m : FL.Env → Out D} {Γ : FL.Env} {d : D} {b : FL.Env → SO} (h : m Γ = .ok d) : sSeq (sDrop m) b Γ = b Γ := by
  unfold sSeq sDrop
  rw [h]
  rfl
theorem drop_exc {m : FL.Env → Out D} {Γ : FL.Env} {c : Str} {b : FL.Env → SO} (h : m Γ = .exc c) : sSeq (sDrop m) b Γ = .exc c := by
  unfold sSeq sDrop
  rw [h]
  rfl
end K91
set_option Elab.async false
set_option linter.all false
set_option maxRecDepth 100000
set_option maxHeartbeats 4000000
namespace K91
open PySem PySem.Spec PyProof.Rows L2 LamX FL
/-! ### decided: what the program's functions tell -/
theorem Kind.nodup {L n : Nat} {ws : List (List Int)} (k : Kind L n ws) : ws.Nodup := k.pw.imp fun {a b} h e => by
  subst e
  rw [FL.lex_irrefl] at h
  cases h
theorem Kind.kok {L n : Nat} {ws : List (List Int)} (k : Kind L n ws) (h : ws.length * n ≤ 900) : KOk L n ws :=
  ⟨k.n1, k.n6, by have := k.l; omega, fun w hw => (k.w w hw).1, h, fun w hw => (k.w w hw).2, k.nodup⟩
theorem plan_val {L n : Nat} {ws : List (List Int)} (hk : KOk L n ws) : dPlan (kD L n ws) = .ok (.pln L n ws) := by
  show planOf (L : Nat) (n : Nat) (ws.map wD) = _
  unfold planOf
  have e : toWs (ws.map wD) = some ws := toWs_map ws
  rw [e]
  exact if_pos ⟨by omega, by omega, by simpa using hk⟩
theorem dep_bad {kd : D} (h : m_need_kind [kd] = .exc "BadKind") : m_depth [kd] = .exc "BadKind" := defM_exc (drop_exc (f1_ok rfl h))
theorem decide_bad {kd d : D} {c : Str} (h : m_need_word [kd, d] = .exc c) : m_decide [kd, d] = .exc c := defM_exc (drop_exc (f2_ok rfl rfl h))
theorem grounds_bad {kd d : D} {c : Str} (h : m_need_word [kd, d] = .exc c) : m_grounds [kd, d] = .exc c := defM_exc (drop_exc (f2_ok rfl rfl h))
theorem most_bad {kd : D} (h : m_need_kind [kd] = .exc "BadKind") : m_most_grounds [kd] = .exc "BadKind" := defM_exc (drop_exc (f1_ok rfl h))
theorem free_bad {kd : D} (h : m_need_kind [kd] = .exc "BadKind") : m_free_places [kd] = .exc "BadKind" := defM_exc (drop_exc (f1_ok rfl h))
theorem depth_val {L n : Nat} {ws : List (List Int)} (k : Kind L n ws) (hk : KOk L n ws) : m_depth [kD L n ws] = .ok (.int (depP L ws (List.replicate n none) : Nat)) := by
  refine defM_rt ((drop_ok (f1_ok rfl k.ok)).trans ?_)
  refine (sSeq_nx (sSet_ok (m1_ok rfl (plan_val hk)))).trans ?_
  exact sRet_ok (mMeth_ok (L := L) (k := n) (ws := ws) (ds := [.row (List.replicate n none)]) rfl (a1_ok (mMeth_ok (L := L) (k := n) (ws := ws) (ds := []) rfl rfl rfl (fNo_ok hk))) rfl (fDep_ok hk (okP_no L n)))
/-! #### choices, grounds -/
theorem cutD_from (xs : List D) (k : Nat) : cutD xs (some (k : Int)) none = xs.drop k := cut_from xs k
theorem choices_val : ∀ (k : Nat) (xs : List Int) (c : Nat), c < k → xs.length ≤ 6 → m_choices k [.lst (xs.map D.int), .int (c : Nat)] = .ok (wsD (chs xs c))
  | 0, _, _, h, _ => by omega
  | k + 1, xs, 0, _, _ => by
    refine defM_rt (sSeq_rt (sIf_yes (mT_ok (m2_ok (d := .bl true) rfl rfl (dEq_int 0 0))) ?_))
    have : chs xs 0 = [[]] := by unfold chs; rfl
    rw [this]
    rfl
  | k + 1, xs, c + 1, hc, hl => by
    refine defM_rt ?_
    refine (sSeq_nx (sIf_no (mT_ok (m2_ok (x := .int ((c + 1 : Nat) : Int)) (y := .int 0) (d := .bl false) rfl rfl (by rw [dEq_int]; simp; omega))))).trans ?_
    refine (sSeq_nx (sOwn_ok (ds := []) rfl (by unfold LIM; simp))).trans ?_
    have lp := fun (i : Nat) (hi : i < xs.length) (ds : List D) => choices_val k (xs.drop (i + 1)) c (by omega) (by rw [List.length_drop]; omega)
    have cnt : ∀ i : Nat, ((chs (xs.drop (i + 1)) c).map fun r => wD (xs.getD i 0 :: r)).length ≤ 64 := fun i => by
      rw [List.length_map]
      have h1 := chs_count (xs.drop (i + 1)) c
      have h2 : 2 ^ (xs.drop (i + 1)).length ≤ 2 ^ 6 := Nat.pow_le_pow_right (by omega) (by rw [List.length_drop]; omega)
      omega
    have body : ∀ (is : List Nat) (ds : List D) (a b : Option Sl), (∀ i ∈ is, i < xs.length) → ds.length + is.length * 64 ≤ 10000 → ∃ a' b', forL (.tp [3, 4]) (sExtd 2 (mComp [5] (.nm 5) (mItems (mN (arg 2 (m_choices k)) (mCons (mSl (mVar 0) (oSome (m2 dAdd (mVar 3) (mC (.int 1)))) (oNone)) (mCons (m2 dSub (mVar 1) (mC (.int 1))) (mNil))))) (tYesM) (m2 dAdd (mN dTup (mCons (mVar 4) (mNil))) (mVar 5)))) (is.map fun i => D.tup [.int ((i : Nat) : Int), .int (xs.getD i 0)]) [some (.dat (.lst (xs.map D.int))), some (.dat (.int ((c + 1 : Nat) : Int))), some (.own ds), a, b, none] =
        .nx [some (.dat (.lst (xs.map D.int))), some (.dat (.int ((c + 1 : Nat) : Int))), some (.own (ds ++ is.flatMap fun i => (chs (xs.drop (i + 1)) c).map fun r => wD (xs.getD i 0 :: r))), a', b', none] := fun is => by
      induction is with
      | nil => exact fun ds a b _ _ => ⟨a, b, by rw [List.flatMap_nil, List.append_nil]; rfl⟩
      | cons i is ih =>
        intro ds a b hx hd
        rw [List.length_cons] at hd
        have hi := hx i List.mem_cons_self
        have ci := cnt i
        obtain ⟨a', b', e⟩ := ih (ds ++ (chs (xs.drop (i + 1)) c).map fun r => wD (xs.getD i 0 :: r)) (some (.dat (.int (i : Nat)))) (some (.dat (.int (xs.getD i 0)))) (fun j hj => hx j (List.mem_cons_of_mem _ hj)) (by rw [List.length_append]; omega)
        refine ⟨a', b', ?_⟩
        rw [List.map_cons, List.flatMap_cons, ← List.append_assoc, ← e]
        refine forL_nx (Γ1 := [some (.dat (.lst (xs.map D.int))), some (.dat (.int ((c + 1 : Nat) : Int))), some (.own ds), some (.dat (.int (i : Nat))), some (.dat (.int (xs.getD i 0))), none]) rfl ?_
        refine sExtd_ok (ds := ds) rfl ?_ (by unfold LIM; omega)
        refine mComp_all (xs := chs (xs.drop (i + 1)) c) wD (fun r => wD (xs.getD i 0 :: r)) ?_ (fun r hr => ⟨_, rfl, ?_⟩) ?_
        · show (mN (arg 2 (m_choices k)) _ _).bind items = _
          rw [f2_ok (x := .lst ((xs.drop (i + 1)).map D.int)) (y := .int (c : Nat)) (o := .ok (wsD (chs (xs.drop (i + 1)) c))) ?_ ?_ (lp i hi [])]
          · rfl
          · show Out.ok (D.lst (cutD (xs.map D.int) (some ((i : Int) + 1)) none)) = _
            rw [show ((i : Int) + 1) = ((i + 1 : Nat) : Int) by omega, cutD_from, ← List.map_drop]
          · show Out.ok (D.int (((c + 1 : Nat) : Int) - 1)) = _
            rw [show (((c + 1 : Nat) : Int) - 1) = (c : Int) by omega]
        · have hrl := chs_len _ _ r hr
          exact m2_ok (x := wD [xs.getD i 0]) (y := wD r) rfl rfl (dAdd_w [xs.getD i 0] r (by rw [hrl]; simp; have := (chs_sub _ _ r hr).length_le; rw [List.length_drop] at this; omega))
        · rw [← List.length_map (f := fun r => wD (xs.getD i 0 :: r))]
          unfold LIM
          omega
    obtain ⟨a', b', e⟩ := body (List.range xs.length) [] none none (fun i hi => List.mem_range.mp hi) (by rw [List.length_range]; simp; omega)
    refine (sSeq_nx ((sFor_ok (mI_ok (x := [.lst (xs.map D.int)]) rfl (enum_ints xs))).trans e)).trans ?_
    show SO.rt (D.lst ([] ++ _)) = _
    rw [List.nil_append]
    unfold wsD
    rw [chs_step, List.map_flatMap]
    congr 3
    funext i
    rw [List.map_map]
    rfl
theorem in_w (x : Int) (c : List Int) : dIn (.int x) (wD c) = .ok (.bl (decide (x ∈ c))) := by
  unfold dIn
  have h1 : inOk (.int x) (wD c) = true := by
    show (flat (.int x) && (c.map D.int).all flat) = true
    rw [Bool.and_eq_true, List.all_eq_true]
    refine ⟨rfl, fun d hd => ?_⟩
    obtain ⟨y, _, rfl⟩ := List.mem_map.mp hd
    rfl
  rw [if_pos h1]
  congr 2
  show inD (.int x) (c.map D.int) = _
  unfold inD
  rw [List.any_map]
  by_cases h : x ∈ c
  · rw [decide_eq_true h, List.any_eq_true]
    exact ⟨x, h, by show eqv (.int x) (.int x) = true; rw [eqv_int]; simp⟩
  · rw [decide_eq_false h, List.any_eq_false]
    intro y hy
    show ¬ eqv (.int y) (.int x) = true
    rw [eqv_int]
    simp
    intro e
    exact h (e ▸ hy)
theorem lrng_val (n : Nat) (h : n ≤ 1000) : dLRng (.int (n : Nat)) = .ok (.lst ((intsN n).map D.int)) := by
  show (if 0 ≤ ((n : Nat) : Int) ∧ ((n : Nat) : Int) ≤ ((LIM : Nat) : Int) then Out.ok (D.lst (intsD 0 ((n : Nat) : Int).toNat)) else .bad) = _
  rw [if_pos ⟨by omega, by unfold LIM; omega⟩, Int.toNat_natCast, intsD_zero]
  unfold intsN
  rw [List.map_map]
  rfl
theorem grof_val {L n : Nat} {ws : List (List Int)} (hk : KOk L n ws) {w : List Int} (hw : w.length = n ∧ ∀ x ∈ w, 0 ≤ x ∧ x < (L : Int)) : m_grounds_of [.pln L n ws, wD w] = .ok (wD (grP L n ws w)) := by
  have h6 := hk.n6
  have h1 := hk.n1
  refine defM_rt ?_
  have inner : ∀ (m : Nat), m ≤ n → ∀ Γ : FL.Env, (∃ a b c d, Γ = [some (.dat (.pln L n ws)), some (.dat (wD w)), a, b, c, d]) → ∀ Γ1, Γ1 = Γ.set 2 (some (.dat (.int (m : Nat)))) →
      ((∃ v, ((chs (intsN n) m).findSome? fun c => if (verP L ws (partW n w c)).isSome = true then some (wD c) else none) = some v ∧ sFor (.nm 3) (mItems (mN (arg 2 (m_choices 8)) (mCons (m1 dLRng (m1 (dPF "long") (mVar 0))) (mCons (mVar 2) (mNil))))) (sSeq (sSet 4 (mN (c1 dRTuple) (mCons (mComp [5] (.nm 5) (mI rng1 (mCons (m1 (dPF "long") (mVar 0)) (mNil))) (tYesM) (mIf (mT (m2 dIn (mVar 5) (mVar 3))) (m2 dIx (mVar 1) (mVar 5)) (mC .non))) (mNil)))) (sIf (mT (m2 dNotN (mMeth 2 fVer (mVar 0) (mCons (mVar 4) (mNil))) (mC .non))) (sRet (mVar 3)) (sNext))) Γ1 = .rt v) ∨
        (((chs (intsN n) m).findSome? fun c => if (verP L ws (partW n w c)).isSome = true then some (wD c) else none) = none ∧ ∃ Γ2, sFor (.nm 3) (mItems (mN (arg 2 (m_choices 8)) (mCons (m1 dLRng (m1 (dPF "long") (mVar 0))) (mCons (mVar 2) (mNil))))) (sSeq (sSet 4 (mN (c1 dRTuple) (mCons (mComp [5] (.nm 5) (mI rng1 (mCons (m1 (dPF "long") (mVar 0)) (mNil))) (tYesM) (mIf (mT (m2 dIn (mVar 5) (mVar 3))) (m2 dIx (mVar 1) (mVar 5)) (mC .non))) (mNil)))) (sIf (mT (m2 dNotN (mMeth 2 fVer (mVar 0) (mCons (mVar 4) (mNil))) (mC .non))) (sRet (mVar 3)) (sNext))) Γ1 = .nx Γ2 ∧ ∃ a b c d, Γ2 = [some (.dat (.pln L n ws)), some (.dat (wD w)), a, b, c, d])) := by
    rintro m hm Γ ⟨a, b, c, d, rfl⟩ Γ1 rfl
    simp only [List.set_cons_zero, List.set_cons_succ]
    have hit : mItems (mN (arg 2 (m_choices 8)) (mCons (m1 dLRng (m1 (dPF "long") (mVar 0))) (mCons (mVar 2) (mNil)))) [some (.dat (.pln L n ws)), some (.dat (wD w)), some (.dat (.int (m : Nat))), b, c, d] = .ok ((chs (intsN n) m).map wD) := by
      show (mN (arg 2 (m_choices 8)) _ _).bind items = _
      rw [f2_ok (x := .lst ((intsN n).map D.int)) (y := .int (m : Nat)) (o := .ok (wsD (chs (intsN n) m))) (m1_ok (x := .int (n : Nat)) rfl (lrng_val n (by omega))) rfl (choices_val 8 (intsN n) m (by omega) (by rw [intsN_len]; omega))]
      rfl
    rw [sFor_ok hit]
    refine forL_find wD _ (fun Γ => ∃ a b c d, Γ = [some (.dat (.pln L n ws)), some (.dat (wD w)), a, b, c, d]) ⟨_, _, _, _, rfl⟩ ?_
    rintro ch hch Γ ⟨a, b, c, d, rfl⟩
    refine ⟨[some (.dat (.pln L n ws)), some (.dat (wD w)), a, some (.dat (wD ch)), c, d], rfl, ?_⟩
    have ep : mN (c1 dRTuple) (mCons (mComp [5] (.nm 5) (mI rng1 (mCons (m1 (dPF "long") (mVar 0)) (mNil))) (tYesM) (mIf (mT (m2 dIn (mVar 5) (mVar 3))) (m2 dIx (mVar 1) (mVar 5)) (mC .non))) (mNil)) [some (.dat (.pln L n ws)), some (.dat (wD w)), a, some (.dat (wD ch)), c, d] = .ok (.row (partW n w ch)) := by
      refine b1_ok (x := .lst ((partW n w ch).map rowD)) ?_ ?_
      · unfold partW
        rw [List.map_map]
        refine mComp_all (xs := List.range n) (fun i => D.int ((i : Nat) : Int)) _ (mI_ok (x := [.int (n : Nat)]) rfl (rng1_nat (by omega))) (fun i hi => ⟨_, rfl, ?_⟩) (by rw [List.length_range]; unfold LIM; omega)
        have hi := List.mem_range.mp hi
        refine (mIf_ok (mT_ok (m2_ok (x := .int ((i : Nat) : Int)) (y := wD ch) rfl rfl (in_w _ _)))).trans ?_
        by_cases hc : ((i : Nat) : Int) ∈ ch
        · rw [decide_eq_true hc, if_pos rfl]
          refine (m2_ok (x := wD w) (y := .int ((i : Nat) : Int)) rfl rfl (ixT_ints (by omega))).trans ?_
          simp [hc, rowD]
        · rw [decide_eq_false hc, if_neg (by decide)]
          simp [hc, rowD]
          rfl
      · show (match partOf ((partW n w ch).map rowD) with
          | some p => Out.ok (D.row p)
          | none => .bad) = _
        rw [partOf_row]
    have hv := mMeth_ok (n := 2) (mo := mVar 0) (ms := mCons (mVar 4) mNil) (Γ := [some (.dat (.pln L n ws)), some (.dat (wD w)), a, some (.dat (wD ch)), some (.dat (.row (partW n w ch))), d]) (L := L) (k := n) (ws := ws) (ds := [.row (partW n w ch)]) rfl rfl rfl (fVer_ok hk (okP_partW hw.1 hw.2))
    cases q : verP L ws (partW n w ch) with
    | some b =>
      left
      refine ⟨wD ch, by simp, ?_⟩
      refine (sSeq_nx (sSet_ok ep)).trans ?_
      refine (sIf_ok (x := true) (mT_ok (m2_ok hv rfl (by rw [q]; rfl)))).trans ?_
      rfl
    | none =>
      right
      refine ⟨by simp, _, (sSeq_nx (sSet_ok ep)).trans (sIf_no (mT_ok (m2_ok hv rfl (by rw [q]; rfl)))), _, _, _, _, rfl⟩
  have outer := forL_find (p := .nm 2) (b := sFor (.nm 3) (mItems (mN (arg 2 (m_choices 8)) (mCons (m1 dLRng (m1 (dPF "long") (mVar 0))) (mCons (mVar 2) (mNil))))) (sSeq (sSet 4 (mN (c1 dRTuple) (mCons (mComp [5] (.nm 5) (mI rng1 (mCons (m1 (dPF "long") (mVar 0)) (mNil))) (tYesM) (mIf (mT (m2 dIn (mVar 5) (mVar 3))) (m2 dIx (mVar 1) (mVar 5)) (mC .non))) (mNil)))) (sIf (mT (m2 dNotN (mMeth 2 fVer (mVar 0) (mCons (mVar 4) (mNil))) (mC .non))) (sRet (mVar 3)) (sNext))))
    (fun m : Nat => D.int (m : Int)) (fun m => (chs (intsN n) m).findSome? fun c => if (verP L ws (partW n w c)).isSome = true then some (wD c) else none) (fun Γ => ∃ a b c d, Γ = [some (.dat (.pln L n ws)), some (.dat (wD w)), a, b, c, d]) (xs := List.range (n + 1)) (Γ := [some (.dat (.pln L n ws)), some (.dat (wD w)), none, none, none, none]) ⟨_, _, _, _, rfl⟩
    (fun m hm Γ hΓ => ⟨Γ.set 2 (some (.dat (.int (m : Nat)))), rfl, inner m (by have := List.mem_range.mp hm; omega) Γ hΓ _ rfl⟩)
  have eF : sFor (.nm 2) (mI rng1 (mCons (m2 dAdd (m1 (dPF "long") (mVar 0)) (mC (.int 1))) (mNil))) (sFor (.nm 3) (mItems (mN (arg 2 (m_choices 8)) (mCons (m1 dLRng (m1 (dPF "long") (mVar 0))) (mCons (mVar 2) (mNil))))) (sSeq (sSet 4 (mN (c1 dRTuple) (mCons (mComp [5] (.nm 5) (mI rng1 (mCons (m1 (dPF "long") (mVar 0)) (mNil))) (tYesM) (mIf (mT (m2 dIn (mVar 5) (mVar 3))) (m2 dIx (mVar 1) (mVar 5)) (mC .non))) (mNil)))) (sIf (mT (m2 dNotN (mMeth 2 fVer (mVar 0) (mCons (mVar 4) (mNil))) (mC .non))) (sRet (mVar 3)) (sNext)))) [some (.dat (.pln L n ws)), some (.dat (wD w)), none, none, none, none] = forL (.nm 2) _ ((List.range (n + 1)).map fun m : Nat => D.int (m : Int)) [some (.dat (.pln L n ws)), some (.dat (wD w)), none, none, none, none] :=
    sFor_ok (mI_ok (x := [.int ((n + 1 : Nat) : Int)]) (a1_ok (m2_ok (x := .int (n : Nat)) (y := .int 1) rfl rfl (by rw [dAdd_int]; rfl))) (rng1_nat (by omega)))
  have conv : ∀ (xs : List (List Int)), (xs.findSome? fun c => if (verP L ws (partW n w c)).isSome = true then some (wD c) else none) = (xs.find? fun c => (verP L ws (partW n w c)).isSome).map wD := fun xs => by
    induction xs with
    | nil => rfl
    | cons x xs ih =>
      rw [List.findSome?_cons, List.find?_cons, ih]
      cases (verP L ws (partW n w x)).isSome <;> rfl
  have conv2 : ∀ (ms : List Nat), (ms.findSome? fun m => (chs (intsN n) m).findSome? fun c => if (verP L ws (partW n w c)).isSome = true then some (wD c) else none) = (ms.findSome? fun m => (chs (intsN n) m).find? fun c => (verP L ws (partW n w c)).isSome).map wD := fun ms => by
    induction ms with
    | nil => rfl
    | cons m ms ih =>
      rw [List.findSome?_cons, List.findSome?_cons, ih, conv]
      cases (chs (intsN n) m).find? fun c => (verP L ws (partW n w c)).isSome <;> rfl
  obtain ⟨c, hc⟩ := grO_some hk w
  have hg : grP L n ws w = c := by
    unfold grP
    rw [hc]
    rfl
  rw [hg]
  rcases outer with ⟨v, h1, h2⟩ | ⟨h1, _⟩
  · rw [conv2] at h1
    have e2 : (grO L n ws w).map wD = some v := h1
    rw [hc] at e2
    cases e2
    exact sSeq_rt (eF.trans h2)
  · rw [conv2] at h1
    have e2 : (grO L n ws w).map wD = none := h1
    rw [hc] at e2
    cases e2
theorem grounds_val {L n : Nat} {ws : List (List Int)} (k : Kind L n ws) (hk : KOk L n ws) {w : List Int} (hw : w.length = n ∧ ∀ x ∈ w, 0 ≤ x ∧ x < (L : Int)) : m_grounds [kD L n ws, wD w] = .ok (wD (grP L n ws w)) := by
  refine defM_rt ((drop_ok (f2_ok rfl rfl (word_ok k hw))).trans ?_)
  exact sRet_ok (f2_ok (m1_ok rfl (plan_val hk)) rfl (grof_val hk hw))

end K91
set_option Elab.async false
set_option linter.all false
set_option maxRecDepth 100000
set_option maxHeartbeats 4000000
namespace K91
open PySem PySem.Spec PyProof.Rows L2 LamX FL
/-! #### all words, the most grounds, free places -/
theorem allwords_val {L n : Nat} {ws : List (List Int)} (k : Kind L n ws) : m_all_words [kD L n ws] = .ok (wsD (allw L n)) := by
  have hL : L ≤ 3 := by have := k.l; omega
  have hn := k.n6
  have body : ∀ (js : List Nat) (j0 : Nat) (a b c : Option Sl), j0 + js.length = n → ∃ a' b' c', forL (.nm 2) (sSeq (sOwn 3 (mNil)) (sSeq (sFor (.nm 4) (mItems (mVar 1)) (sExtd 3 (mComp [5] (.nm 5) (mI rng1 (mCons (m2 dIx (mVar 0) (mC (.int 0))) (mNil))) (tYesM) (m2 dAdd (mVar 4) (mN dTup (mCons (mVar 5) (mNil))))))) (sFrz 3 (sSet 1 (mVar 3))))) (js.map fun i => D.int ((i : Nat) : Int)) [some (.dat (kD L n ws)), some (.dat (wsD (allw L j0))), a, b, c, none] = .nx [some (.dat (kD L n ws)), some (.dat (wsD (allw L n))), a', b', c', none] := fun js => by
    induction js with
    | nil =>
      intro j0 a b c h
      have : j0 = n := by simpa using h
      subst this
      exact ⟨a, b, c, rfl⟩
    | cons j js ih =>
      intro j0 a b c h
      rw [List.length_cons] at h
      have hlen := allw_len L j0
      have hp := pow_le L j0 hL (by omega)
      obtain ⟨z', e⟩ := extd_loop (i := 3) (j := 4) (mc := mComp [5] (.nm 5) (mI rng1 (mCons (m2 dIx (mVar 0) (mC (.int 0))) (mNil))) (tYesM) (m2 dAdd (mVar 4) (mN dTup (mCons (mVar 5) (mNil))))) (by decide) wD (fun w => (nxt L w).map wD) [some (.dat (kD L n ws)), some (.dat (wsD (allw L j0))), some (.dat (.int (j : Nat))), none, none, none] (by simp) (allw L j0) [] c (fun w hw ds => by
        have hwl := (allw_mem.mp hw).1
        unfold nxt
        rw [List.map_map]
        refine mComp_all (fun l => D.int ((l : Nat) : Int)) _ (mI_ok (x := [.int (L : Nat)]) rfl (rng1_nat (by omega))) (fun l hl => ⟨_, rfl, ?_⟩) (by rw [List.length_range]; unfold LIM; omega)
        exact m2_ok (x := wD w) (y := wD [((l : Nat) : Int)]) rfl rfl (dAdd_w w [((l : Nat) : Int)] (by rw [hwl]; simp; omega))) (by
        have e1 : ((allw L j0).flatMap fun w => (nxt L w).map wD) = ((allw L j0).flatMap (nxt L)).map wD := by rw [List.map_flatMap]
        rw [e1, List.length_map, nxt_len, hlen]
        have := Nat.mul_le_mul hp hL
        unfold LIM
        simp
        omega)
      obtain ⟨a', b', c', e2⟩ := ih (j0 + 1) (some (.dat (.int (j : Nat)))) (some (.dat (wsD (allw L (j0 + 1))))) z' (by omega)
      refine ⟨a', b', c', ?_⟩
      rw [List.map_cons, ← e2]
      refine forL_nx (Γ1 := [some (.dat (kD L n ws)), some (.dat (wsD (allw L j0))), some (.dat (.int (j : Nat))), b, c, none]) rfl ?_
      refine (sSeq_nx (sOwn_ok (ds := []) rfl (by unfold LIM; simp))).trans ?_
      refine (sSeq_nx ((sFor_ok (ds := (allw L j0).map wD) rfl).trans e)).trans ?_
      have e3 : ([] : List D) ++ ((allw L j0).flatMap fun w => (nxt L w).map wD) = (allw L (j0 + 1)).map wD := by
        rw [List.nil_append, ← List.map_flatMap]
        rfl
      rw [e3]
      rfl
  obtain ⟨a', b', c', e⟩ := body (List.range n) 0 none none none (by rw [List.length_range]; omega)
  refine defM_rt ?_
  refine (sSeq_nx (sSet_ok (d := wsD [[]]) rfl)).trans ?_
  refine (sSeq_nx ((sFor_ok (mI_ok (x := [.int (n : Nat)]) rfl (rng1_nat (by omega)))).trans e)).trans ?_
  rfl
theorem toPrs_map : ∀ ps : List (Int × List Int), toPrs (ps.map prD) = some ps
  | [] => rfl
  | p :: ps => by
    show (match toInts (p.2.map D.int), toPrs (ps.map prD) with
      | some w, some ps => some ((p.1, w) :: ps)
      | _, _ => none) = _
    rw [toInts_map, toPrs_map ps]
theorem most_val {L n : Nat} {ws : List (List Int)} (k : Kind L n ws) (hk : KOk L n ws) : m_most_grounds [kD L n ws] = .ok (.tup [.int (0 - (minPL (mgPrs L n ws)).1), wD (minPL (mgPrs L n ws)).2]) := by
  have hL : L ≤ 3 := by have := k.l; omega
  have hlen := allw_len L n
  have hp := pow_le L n hL k.n6
  have hpos : 0 < (allw L n).length := by
    rw [hlen]
    exact Nat.pow_pos (by have := k.l; omega)
  refine defM_rt ((drop_ok (f1_ok rfl k.ok)).trans ?_)
  refine (sSeq_nx (sSet_ok (m1_ok rfl (plan_val hk)))).trans ?_
  refine (sSeq_nx (sSet_ok (d := .lst ((mgPrs L n ws).map prD)) ?_)).trans ?_
  · unfold mgPrs
    rw [List.map_map]
    refine mComp_all (xs := allw L n) wD _ ?_ (fun w hw => ⟨_, rfl, ?_⟩) (by unfold LIM; omega)
    · show (mN (arg 1 m_all_words) _ _).bind items = _
      rw [f1_ok (x := kD L n ws) (o := .ok (wsD (allw L n))) rfl (allwords_val k)]
      rfl
    · have hw := allw_mem.mp hw
      refine mN_ok (a2_ok (x := .int (0 - ((grP L n ws w).length : Int))) (y := wD w) (m2_ok (x := .int 0) (y := .int ((grP L n ws w).length : Nat)) rfl (b1_ok (x := wD (grP L n ws w)) (f2_ok (x := .pln L n ws) (y := wD w) rfl rfl (grof_val hk hw)) (len_wD _)) (dSub_int _ _)) rfl) ?_
      rfl
  · have hm : dMinP (.lst ((mgPrs L n ws).map prD)) = .ok (prD (minPL (mgPrs L n ws))) := by
      show (match toPrs ((mgPrs L n ws).map prD) with
        | some (x :: xs) => Out.ok (prD (minP x xs))
        | _ => .bad) = _
      rw [toPrs_map]
      cases q : mgPrs L n ws with
      | nil =>
        have := congrArg List.length q
        unfold mgPrs at this
        rw [List.length_map, List.length_nil] at this
        omega
      | cons x xs =>
        show Out.ok (prD (minP x xs)) = _
        rw [minP_eq]
    generalize minPL (mgPrs L n ws) = mp at hm
    refine (sSeq_nx (Γ' := [some (.dat (kD L n ws)), some (.dat (.pln L n ws)), some (.dat (.lst ((mgPrs L n ws).map prD))), some (.dat (.int mp.1)), some (.dat (wD mp.2))]) ?_).trans ?_
    · unfold sTup
      rw [b1_ok (o := .ok (prD mp)) (x := .lst ((mgPrs L n ws).map prD)) rfl hm]
      rfl
    · exact sRet_ok (mN_ok (a2_ok (m2_ok (x := .int 0) (y := .int mp.1) rfl rfl (dSub_int _ _)) rfl) rfl)
theorem inW_val (w : List Int) (ws : List (List Int)) : dInW (wD w) (.wds ws) = .ok (.bl (decide (w ∈ ws))) := by
  show (match partOf (w.map D.int) with
    | some p => Out.ok (D.bl (decide (p ∈ List.map (fun w : List Int => List.map some w) ws)))
    | none => .bad) = _
  have e : w.map D.int = (w.map some).map rowD := by
    rw [List.map_map]
    rfl
  rw [e, partOf_row]
  show Out.ok (D.bl (decide _)) = _
  congr 2
  apply decide_eq_decide.mpr
  rw [List.mem_map]
  exact ⟨fun ⟨v, h1, h2⟩ => map_some_inj h2 ▸ h1, fun h => ⟨w, h, rfl⟩⟩
theorem set_word (w : List Int) (i : Nat) (x : Int) (h : i < w.length) : w.take i ++ [x] ++ w.drop (i + 1) = w.set i x := by
  rw [List.set_eq_take_append_cons_drop, if_pos h, List.append_assoc]
  rfl
theorem slT_to (w : List Int) (k : Nat) : mSl (mVar 5) oNone (oSome (mVar 3)) = mSl (mVar 5) oNone (oSome (mVar 3)) := rfl
theorem dSl_to (w : List Int) (k : Nat) : dSl (wD w) none (some (k : Int)) = .ok (wD (w.take k)) := by
  show Out.ok (D.tup (cutD (w.map D.int) none (some (k : Int)))) = _
  rw [cut_to, ← List.map_take]
  rfl
theorem dSl_from (w : List Int) (k : Nat) : dSl (wD w) (some (k : Int)) none = .ok (wD (w.drop k)) := by
  show Out.ok (D.tup (cutD (w.map D.int) (some (k : Int)) none)) = _
  rw [cut_from, ← List.map_drop]
  rfl
theorem free_val {L n : Nat} {ws : List (List Int)} (k : Kind L n ws) (hk : KOk L n ws) : m_free_places [kD L n ws] = .ok (.lst ((frP L n ws).map fun i => D.int ((i : Nat) : Int))) := by
  have hL : L ≤ 3 := by have := k.l; omega
  have hn := k.n6
  have h9 := kok_len hk
  have body : ∀ (js : List Nat) (ds : List D) (a b c : Option Sl), (∀ j ∈ js, j < n) → ds.length + js.length ≤ 1000 → ∃ a' b' c', forL (.nm 3) (sSeq (sOwn 4 (mNil)) (sSeq (sFor (.nm 5) (mItems (m2 dIx (mVar 0) (mC (.int 2)))) (sExtd 4 (mComp [6] (.nm 6) (mI rng1 (mCons (m2 dIx (mVar 0) (mC (.int 0))) (mNil))) (tYesM) (m2 dAdd (m2 dAdd (mSl (mVar 5) (oNone) (oSome (mVar 3))) (mN dTup (mCons (mVar 6) (mNil)))) (mSl (mVar 5) (oSome (m2 dAdd (mVar 3) (mC (.int 1)))) (oNone)))))) (sIf (mT (mN (c1 dAll) (mCons (mComp [5] (.nm 5) (mOItems 4) (tYesM) (m2 dInW (mVar 5) (mVar 1))) (mNil)))) (sApp 2 (mVar 3)) (sNext)))) (js.map fun i => D.int ((i : Nat) : Int)) [some (.dat (kD L n ws)), some (.dat (.wds ws)), some (.own ds), a, b, c, none] =
      .nx [some (.dat (kD L n ws)), some (.dat (.wds ws)), some (.own (ds ++ (js.filter fun i => ws.all fun w => (List.range L).all fun x => decide (w.set i ((x : Nat) : Int) ∈ ws)).map fun i => D.int ((i : Nat) : Int))), a', b', c', none] := fun js => by
    induction js with
    | nil => exact fun ds a b c _ _ => ⟨a, b, c, by simp; rfl⟩
    | cons j js ih =>
      intro ds a b c hj hd
      have hjn := hj j List.mem_cons_self
      obtain ⟨z', e⟩ := extd_loop (i := 4) (j := 5) (mc := mComp [6] (.nm 6) (mI rng1 (mCons (m2 dIx (mVar 0) (mC (.int 0))) (mNil))) (tYesM) (m2 dAdd (m2 dAdd (mSl (mVar 5) (oNone) (oSome (mVar 3))) (mN dTup (mCons (mVar 6) (mNil)))) (mSl (mVar 5) (oSome (m2 dAdd (mVar 3) (mC (.int 1)))) (oNone)))) (by decide) wD (fun w => ((List.range L).map fun x : Nat => w.set j (x : Int)).map wD) [some (.dat (kD L n ws)), some (.dat (.wds ws)), some (.own ds), some (.dat (.int (j : Nat))), none, none, none] (by simp) ws [] c (fun w hw es => by
        have hwl := hk.len w hw
        rw [List.map_map]
        refine mComp_all (fun l => D.int ((l : Nat) : Int)) _ (mI_ok (x := [.int (L : Nat)]) rfl (rng1_nat (by omega))) (fun l hl => ⟨_, rfl, ?_⟩) (by rw [List.length_range]; unfold LIM; omega)
        refine m2_ok (x := wD (w.take j ++ [((l : Nat) : Int)])) (y := wD (w.drop (j + 1))) (m2_ok (x := wD (w.take j)) (y := wD [((l : Nat) : Int)]) (dSl_to w j) rfl (dAdd_w _ _ (by rw [List.length_take]; simp; omega))) ?_ ?_
        · have := dSl_from w (j + 1)
          rw [show ((j + 1 : Nat) : Int) = (j : Int) + 1 by omega] at this
          exact this
        · rw [dAdd_w _ _ (by rw [List.length_append, List.length_take, List.length_drop]; simp; omega), set_word w j _ (by omega)]
          rfl) (by
        have e1 : ∀ xs : List (List Int), (xs.flatMap fun w => ((List.range L).map fun x : Nat => w.set j (x : Int)).map wD).length = xs.length * L := fun xs => by
          induction xs with
          | nil => simp
          | cons x xs ih2 => rw [List.flatMap_cons, List.length_append, ih2, List.length_map, List.length_map, List.length_range, List.length_cons, Nat.succ_mul]; omega
        rw [e1]
        have := Nat.mul_le_mul h9 hL
        unfold LIM
        simp
        omega)
      have eb : (ws.flatMap fun w => ((List.range L).map fun x : Nat => w.set j (x : Int)).map wD) = (ws.flatMap fun w => (List.range L).map fun x : Nat => w.set j (x : Int)).map wD := by rw [List.map_flatMap]
      have test : mT (mN (c1 dAll) (mCons (mComp [5] (.nm 5) (mOItems 4) (tYesM) (m2 dInW (mVar 5) (mVar 1))) (mNil))) [some (.dat (kD L n ws)), some (.dat (.wds ws)), some (.own ds), some (.dat (.int (j : Nat))), some (.own ((ws.flatMap fun w => (List.range L).map fun x : Nat => w.set j (x : Int)).map wD)), z', none] = .ok (ws.all fun w => (List.range L).all fun x => decide (w.set j ((x : Nat) : Int) ∈ ws)) := by
        refine mT_ok (b1_ok (x := .lst ((ws.flatMap fun w => (List.range L).map fun x : Nat => w.set j (x : Int)).map fun v => D.bl (decide (v ∈ ws)))) ?_ ?_)
        · refine mComp_all wD _ rfl (fun v hv => ⟨_, rfl, m2_ok (x := wD v) (y := .wds ws) rfl rfl (inW_val v ws)⟩) ?_
          have e1 : ∀ xs : List (List Int), (xs.flatMap fun w => (List.range L).map fun x : Nat => w.set j (x : Int)).length = xs.length * L := fun xs => by
            induction xs with
            | nil => simp
            | cons x xs ih2 => rw [List.flatMap_cons, List.length_append, ih2, List.length_map, List.length_range, List.length_cons, Nat.succ_mul]; omega
          rw [e1]
          have := Nat.mul_le_mul h9 hL
          unfold LIM
          omega
        · have tb : ∀ vs : List (List Int), toBools (vs.map fun v => D.bl (decide (v ∈ ws))) = some (vs.map fun v => decide (v ∈ ws)) := fun vs => by
            induction vs with
            | nil => rfl
            | cons v vs ih2 =>
              show (toBools (vs.map fun v => D.bl (decide (v ∈ ws)))).map (decide (v ∈ ws) :: ·) = _
              rw [ih2]
              rfl
          show (match toBools _ with
            | some bs => Out.ok (D.bl (bs.all id))
            | none => .bad) = _
          rw [tb]
          show Out.ok (D.bl _) = _
          congr 2
          rw [List.all_map, List.all_flatMap]
          congr 1
          funext w
          rw [List.all_map]
          rfl
      rw [List.length_cons] at hd
      by_cases c : (ws.all fun w => (List.range L).all fun x => decide (w.set j ((x : Nat) : Int) ∈ ws)) = true
      · obtain ⟨a', b', c', e2⟩ := ih (ds ++ [.int (j : Nat)]) (some (.dat (.int (j : Nat)))) (some (.own ((ws.flatMap fun w => (List.range L).map fun x : Nat => w.set j (x : Int)).map wD))) z' (fun i hi => hj i (List.mem_cons_of_mem _ hi)) (by rw [List.length_append]; simp; omega)
        refine ⟨a', b', c', ?_⟩
        rw [List.map_cons, List.filter_cons, if_pos c, List.map_cons, show ∀ (xs : List D) (x : D) (ys : List D), xs ++ x :: ys = xs ++ [x] ++ ys from fun xs x ys => by simp, ← e2]
        refine forL_nx (Γ1 := [some (.dat (kD L n ws)), some (.dat (.wds ws)), some (.own ds), some (.dat (.int (j : Nat))), b, _, none]) rfl ?_
        refine (sSeq_nx (sOwn_ok (ds := []) rfl (by unfold LIM; simp))).trans ?_
        refine (sSeq_nx ((sFor_ok (ds := ws.map wD) rfl).trans e)).trans ?_
        rw [List.nil_append, eb]
        refine sIf_yes (test.trans (by rw [c])) ?_
        exact sApp_ok (ds := ds) rfl rfl (by unfold LIM; omega)
      · obtain ⟨a', b', c', e2⟩ := ih ds (some (.dat (.int (j : Nat)))) (some (.own ((ws.flatMap fun w => (List.range L).map fun x : Nat => w.set j (x : Int)).map wD))) z' (fun i hi => hj i (List.mem_cons_of_mem _ hi)) (by omega)
        refine ⟨a', b', c', ?_⟩
        rw [List.map_cons, List.filter_cons, if_neg c, ← e2]
        refine forL_nx (Γ1 := [some (.dat (kD L n ws)), some (.dat (.wds ws)), some (.own ds), some (.dat (.int (j : Nat))), b, _, none]) rfl ?_
        refine (sSeq_nx (sOwn_ok (ds := []) rfl (by unfold LIM; simp))).trans ?_
        refine (sSeq_nx ((sFor_ok (ds := ws.map wD) rfl).trans e)).trans ?_
        rw [List.nil_append, eb]
        exact sIf_no (test.trans (by simpa using c))
  obtain ⟨a', b', c', e⟩ := body (List.range n) [] none none none (fun j hj => List.mem_range.mp hj) (by rw [List.length_range]; simp; omega)
  refine defM_rt ((drop_ok (f1_ok rfl k.ok)).trans ?_)
  refine (sSeq_nx (sSet_ok (d := .wds ws) (b1_ok (x := .lst (ws.map fun w => D.tup [.tup (w.map D.int), .bl true])) ?_ (dDictW_ok hk.nd (by omega))))).trans ?_
  · exact mComp_all (xs := ws) (fun w => D.tup (w.map D.int)) (fun w => D.tup [.tup (w.map D.int), .bl true]) rfl (fun w hw => ⟨_, rfl, rfl⟩) (by unfold LIM; omega)
  refine (sSeq_nx (sOwn_ok (ds := []) rfl (by unfold LIM; simp))).trans ?_
  refine (sSeq_nx ((sFor_ok (mI_ok (x := [.int (n : Nat)]) rfl (rng1_nat (by omega)))).trans e)).trans ?_
  rw [List.nil_append]
  rfl

end K91
set_option Elab.async false
set_option linter.all false
set_option maxRecDepth 100000
set_option maxHeartbeats 4000000
namespace K91
open PySem PySem.Spec PyProof.Rows L2 LamX FL
theorem wSeq_nx {m : FL.Env → SO} {n : FL.Env → SW} {Γ Γ' : FL.Env} (h : m Γ = .nx Γ') : wSeq m n Γ = n Γ' := by
  unfold wSeq
  rw [h]
theorem outW_ok {C : Str} {p : Addr} {d : D} {Γ : FL.Env} {fs : Ob} (h : obj0 Γ = some (C, some p, fs)) : outW C p (.ok d Γ) = .ok (d, fs) := by
  unfold outW
  dsimp only
  rw [h]
  exact if_pos ⟨rfl, rfl⟩
/-! ### lookers -/
def lk (L n : Nat) (ws : List (List Int)) (w : List Int) (ps ts : List D) : Ob := [("plan", .dat (.pln L n ws)), ("word", .dat (wD w)), ("places", .own ps), ("taken", .own ts)]
theorem init_val {L n : Nat} {ws : List (List Int)} (k : Kind L n ws) (hk : KOk L n ws) {w : List Int} (hw : w.length = n ∧ ∀ x ∈ w, 0 ≤ x ∧ x < (L : Int)) (p : Addr) : m_Looker_initN p [] [kD L n ws, wD w] = .ok (.non, lk L n ws w [] []) := by
  show outW "Looker" p (wSeq _ _ [some (Sl.obj "Looker" (some p) []), some (.dat (kD L n ws)), some (.dat (wD w))]) = _
  rw [wSeq_nx (Γ' := [some (Sl.obj "Looker" (some p) []), some (.dat (kD L n ws)), some (.dat (wD w))]) (by
    unfold sDrop
    rw [f2_ok (x := kD L n ws) (y := wD w) (o := .ok .non) rfl rfl (word_ok k hw)]
    rfl)]
  rw [wSeq_nx (Γ' := [some (Sl.obj "Looker" (some p) [("plan", .dat (.pln L n ws))]), some (.dat (kD L n ws)), some (.dat (wD w))]) (by
    have e : m1 dPlan (mN dTup (mCons (m2 dIx (mVar 1) (mC (.int 0))) (mCons (m2 dIx (mVar 1) (mC (.int 1))) (mCons (mN (c1 dList) (mCons (m2 dIx (mVar 1) (mC (.int 2))) (mNil))) (mNil))))) [some (Sl.obj "Looker" (some p) []), some (.dat (kD L n ws)), some (.dat (wD w))] = .ok (.pln L n ws) := m1_ok (x := kD L n ws) rfl (plan_val hk)
    unfold sSetF
    show (if ("Looker" : Str) = "Looker" ∧ (0 : Nat) < 1000 then SO.ofO (m1 dPlan _ _) _ else .bad) = _
    rw [if_pos ⟨rfl, by decide⟩, e]
    rfl)]
  rw [wSeq_nx (Γ' := [some (Sl.obj "Looker" (some p) [("plan", .dat (.pln L n ws)), ("word", .dat (wD w))]), some (.dat (kD L n ws)), some (.dat (wD w))]) (by rfl)]
  rw [wSeq_nx (Γ' := [some (Sl.obj "Looker" (some p) [("plan", .dat (.pln L n ws)), ("word", .dat (wD w)), ("places", .own [])]), some (.dat (kD L n ws)), some (.dat (wD w))]) (by rfl)]
  rw [wSeq_nx (Γ' := [some (Sl.obj "Looker" (some p) (lk L n ws w [] [])), some (.dat (kD L n ws)), some (.dat (wD w))]) (by rfl)]
  exact outW_ok rfl
theorem init_at {L n : Nat} {ws : List (List Int)} (k : Kind L n ws) (hk : KOk L n ws) {w : List Int} (hw : w.length = n ∧ ∀ x ∈ w, 0 ≤ x ∧ x < (L : Int)) : WF.at m_Looker_initN none [] [kD L n ws, wD w] = .ok (.non, lk L n ws w [] []) := by
  unfold WF.at
  dsimp only
  rw [if_pos (fun p => by rw [init_val k hk hw p, init_val k hk hw 0])]
  exact init_val k hk hw 0
theorem initX {kd d : D} {c : Str} (h : m_need_word [kd, d] = .exc c) : m_Looker_initX [] [kd, d] = .exc c := by
  unfold m_Looker_initX defR
  have e := drop_exc (m := mN (arg 2 m_need_word) (mCons (mVar 1) (mCons (mVar 2) (mNil)))) (b := sBad) (Γ := [some (Sl.rob "Looker" []), some (.dat kd), some (.dat d)]) (f2_ok (x := kd) (y := d) rfl rfl h)
  show (match sSeq (sDrop (mN (arg 2 m_need_word) (mCons (mVar 1) (mCons (mVar 2) (mNil))))) sBad [some (Sl.rob "Looker" []), some (.dat kd), some (.dat d)] with
    | .rt d => Out.ok d
    | .nx _ => .ok .non
    | .exc c => .exc c
    | _ => .bad) = _
  rw [e]
/-- the first test of look -/
def tLook : FL.Env → Out Bool := tOrM (mT (mN (c2 dIsi) (mCons (mVar 1) (mCons (mC (.ty "bool")) (mNil))))) (tOrM (tNotM (mT (mN (c2 dIsi) (mCons (mVar 1) (mCons (mC (.ty "int")) (mNil)))))) (tNotM (mT (mChain dLe dLt (mC (.int 0)) (mVar 1) (mN (c1 dLen) (mCons (mFld "Looker" 0 "word") (mNil)))))))
theorem look_int {L n : Nat} {ws : List (List Int)} {w : List Int} {ps ts : List D} {s : Sl} (hs : s = .rob "Looker" (lk L n ws w ps ts) ∨ ∃ q, s = .obj "Looker" q (lk L n ws w ps ts)) (i : Int) : tLook [some s, some (.dat (.int i))] = .ok (!(decide (0 ≤ i) && decide (i < (w.length : Int)))) := by
  unfold tLook
  have e : mChain dLe dLt (mC (.int 0)) (mVar 1) (mN (c1 dLen) (mCons (mFld "Looker" 0 "word") (mNil))) [some s, some (.dat (.int i))] = .ok (.bl (decide (0 ≤ i) && decide (i < (w.length : Int)))) := by
    refine chain_bl (x := .int 0) (y := .int i) (z := .int (w.length : Nat)) rfl rfl (dLe_int 0 i) (b1_ok (x := wD w) ?_ (len_wD w)) (dLt_int i _)
    rcases hs with rfl | ⟨q, rfl⟩ <;> rfl
  rw [tOr_ok (x := false) (y := !(decide (0 ≤ i) && decide (i < (w.length : Int)))) rfl fun _ => ?_]
  · rfl
  · rw [tOr_ok (x := false) (y := !(decide (0 ≤ i) && decide (i < (w.length : Int)))) rfl fun _ => tNot_ok (mT_ok e)]
    rfl
theorem lookX_first {fs : Ob} {d : D} (h : tLook [some (Sl.rob "Looker" fs), some (.dat d)] = .ok true) : m_Looker_lookX fs [d] = .exc "BadPlace" := by
  have e := sSeq_exc (a := sIf tLook (sRaise "BadPlace") sNext) (b := sSeq (sIf (tFrz 0 "places" (mT (m2 dIn (mVar 1) (mFld "Looker" 0 "places")))) (sRaise "BadPlace") (sNext)) (sBad)) (d := "BadPlace") (sIf_yes h rfl)
  show (match sSeq (sIf tLook (sRaise "BadPlace") sNext) (sSeq (sIf (tFrz 0 "places" (mT (m2 dIn (mVar 1) (mFld "Looker" 0 "places")))) (sRaise "BadPlace") (sNext)) (sBad)) [some (Sl.rob "Looker" fs), some (.dat d)] with
    | .rt d => Out.ok d
    | .nx _ => .ok .non
    | .exc c => .exc c
    | _ => .bad) = _
  rw [e]
theorem lookX_again {L n : Nat} {ws : List (List Int)} {w : List Int} (hw : 0 < w.length) : m_Looker_lookX (lk L n ws w [.int 0] []) [.int 0] = .exc "BadPlace" := by
  have h1 := look_int (L := L) (n := n) (ws := ws) (w := w) (ps := [.int 0]) (ts := []) (.inl rfl) 0
  have h1 : tLook [some (Sl.rob "Looker" (lk L n ws w [.int 0] [])), some (.dat (.int 0))] = .ok false := by
    rw [h1]
    simp
    omega
  have e : sSeq (sIf tLook (sRaise "BadPlace") sNext) (sSeq (sIf (tFrz 0 "places" (mT (m2 dIn (mVar 1) (mFld "Looker" 0 "places")))) (sRaise "BadPlace") (sNext)) (sBad)) [some (Sl.rob "Looker" (lk L n ws w [.int 0] [])), some (.dat (.int 0))] = .exc "BadPlace" := by
    rw [sSeq_nx (sIf_no h1)]
    exact sSeq_exc (sIf_yes (by rfl) rfl)
  show (match sSeq (sIf tLook (sRaise "BadPlace") sNext) (sSeq (sIf (tFrz 0 "places" (mT (m2 dIn (mVar 1) (mFld "Looker" 0 "places")))) (sRaise "BadPlace") (sNext)) (sBad)) [some (Sl.rob "Looker" (lk L n ws w [.int 0] [])), some (.dat (.int 0))] with
    | .rt d => Out.ok d
    | .nx _ => .ok .non
    | .exc c => .exc c
    | _ => .bad) = _
  rw [e]
theorem lookW_val {L n : Nat} {ws : List (List Int)} {w : List Int} (hw : 0 < w.length) (p : Addr) : m_Looker_lookW p (lk L n ws w [] []) [.int 0] = .ok (.int (w.getD 0 0), lk L n ws w [.int 0] []) := by
  have h1 := look_int (L := L) (n := n) (ws := ws) (w := w) (ps := []) (ts := []) (.inr ⟨some p, rfl⟩) 0
  have h1 : tLook [some (Sl.obj "Looker" (some p) (lk L n ws w [] [])), some (.dat (.int 0))] = .ok false := by
    rw [h1]
    simp
    omega
  show outW "Looker" p (wSeq (sIf tLook (sRaise "BadPlace") sNext) (wSeq (sIf (tFrz 0 "places" (mT (m2 dIn (mVar 1) (mFld "Looker" 0 "places")))) (sRaise "BadPlace") (sNext)) (wSeq (sFApp "Looker" 0 "places" (mVar 1)) (wSeq (sSetFO "Looker" 0 "taken" ((fun Γ => ((mNil) Γ).bind limO))) (wRet (m2 dIx (mFld "Looker" 0 "word") (mVar 1)))))) [some (Sl.obj "Looker" (some p) (lk L n ws w [] [])), some (.dat (.int 0))]) = _
  rw [wSeq_nx (sIf_no h1)]
  rw [wSeq_nx (sIf_no (by rfl))]
  rw [wSeq_nx (Γ' := [some (Sl.obj "Looker" (some p) (lk L n ws w [.int 0] [])), some (.dat (.int 0))]) (by rfl)]
  rw [wSeq_nx (Γ' := [some (Sl.obj "Looker" (some p) (lk L n ws w [.int 0] [])), some (.dat (.int 0))]) (by rfl)]
  unfold wRet
  rw [m2_ok (x := wD w) (y := .int 0) (d := .int (w.getD 0 0)) rfl rfl (ixT_ints (j := 0) hw)]
  exact outW_ok rfl
theorem lookW_at {L n : Nat} {ws : List (List Int)} {w : List Int} (hw : 0 < w.length) : WF.at m_Looker_lookW none (lk L n ws w [] []) [.int 0] = .ok (.int (w.getD 0 0), lk L n ws w [.int 0] []) := by
  unfold WF.at
  dsimp only
  rw [if_pos (fun p => by rw [lookW_val hw p, lookW_val hw 0])]
  exact lookW_val hw 0
theorem redoX_val {L n : Nat} {ws : List (List Int)} {w : List Int} {ps : List D} : m_Looker_redoX (lk L n ws w ps []) [] = .exc "Nothing" := by
  have e : sSeq (sIf (tFrz 0 "taken" (mT (m2 dEq (mFld "Looker" 0 "taken") (mN dLst (mNil))))) (sRaise "Nothing") (sNext)) (sBad) [some (Sl.rob "Looker" (lk L n ws w ps []))] = .exc "Nothing" := sSeq_exc (sIf_yes (by rfl) rfl)
  show (match sSeq (sIf (tFrz 0 "taken" (mT (m2 dEq (mFld "Looker" 0 "taken") (mN dLst (mNil))))) (sRaise "Nothing") (sNext)) (sBad) [some (Sl.rob "Looker" (lk L n ws w ps []))] with
    | .rt d => Out.ok d
    | .nx _ => .ok .non
    | .exc c => .exc c
    | _ => .bad) = _
  rw [e]
theorem lookedR_val {L n : Nat} {ws : List (List Int)} {w : List Int} {ps ts : List D} : m_Looker_lookedR (lk L n ws w ps ts) [] = .ok (.lst ps) := by rfl
theorem mMR_ok {C : Str} {i : Nat} {m : Str} {n : Nat} {f : Ob → List D → Out D} {ms : FL.Env → Out (List D)} {Γ : FL.Env} {fs : Ob} {ds : List D} {o : Out D} (h1 : obAt Γ i = some (C, fs)) (h2 : fs.lookup m = none) (h3 : ms Γ = .ok ds) (h4 : ds.length = n) (h5 : f fs ds = o) : mMR C i m n f ms Γ = o := by
  unfold mMR
  rw [h1]
  dsimp only
  rw [if_pos ⟨rfl, by rw [h2]; rfl⟩, h3]
  show (if ds.length = n then f fs ds else .bad) = o
  rw [if_pos h4]
  exact h5
theorem mMkX_exc {n : Nat} {f : Ob → List D → Out D} {ms : FL.Env → Out (List D)} {Γ : FL.Env} {ds : List D} {c : Str} (h3 : ms Γ = .ok ds) (h4 : ds.length = n) (h5 : f [] ds = .exc c) : mMkX n f ms Γ = .exc c := by
  unfold mMkX
  rw [h3]
  show (if ds.length = n then _ else _) = _
  rw [if_pos h4, h5]
/-! ### six letters -/
theorem one_kind : Kind 2 6 [[0, 0, 0, 0, 0, 0]] := ⟨.inl rfl, by decide, by decide, by decide, by decide, by decide, by decide⟩
theorem one_kok : KOk 2 6 [[0, 0, 0, 0, 0, 0]] := one_kind.kok (by decide)
theorem whole_kind : Kind 2 6 (allw 2 6) := ⟨.inl rfl, by decide, by decide, by decide +kernel, fun w hw => allw_mem.mp hw, allw_pw 2 6, by rw [allw_len]; decide⟩
theorem whole_kok : KOk 2 6 (allw 2 6) := whole_kind.kok (by rw [allw_len]; decide)
theorem dep_one : depP 2 [[0, 0, 0, 0, 0, 0]] (List.replicate 6 none) = 6 := by decide +kernel
theorem dep_whole : depP 2 (allw 2 6) (List.replicate 6 none) = 0 := by decide +kernel
theorem gr_whole : grP 2 6 (allw 2 6) [0, 0, 0, 0, 0, 0] = [] := by decide +kernel
theorem gr_one : grP 2 6 [[0, 0, 0, 0, 0, 0]] [0, 1, 1, 0, 0, 0] = [1] := by decide +kernel
theorem most_one : minPL (mgPrs 2 6 [[0, 0, 0, 0, 0, 0]]) = (-6, [0, 0, 0, 0, 0, 0]) := by decide +kernel
theorem free_whole : frP 2 6 (allw 2 6) = [0, 1, 2, 3, 4, 5] := by decide +kernel
end K91
set_option Elab.async false
set_option linter.all false
set_option maxRecDepth 100000
set_option maxHeartbeats 4000000
namespace K91
open PySem PySem.Spec PyProof.Rows L2 LamX FL
theorem badk {kd : D} (h : m_need_kind [kd] = .exc "BadKind") {Γ : FL.Env} (h5 : mVar 5 Γ = .ok kd) : mTold ns (mN (arg 1 m_depth) (mCons (mVar 5) (mNil))) Γ = .ok (.str "BadKind") ∧ mTold ns (mN (arg 2 m_decide) (mCons (mVar 5) (mCons (mC .non) (mNil)))) Γ = .ok (.str "BadKind") ∧ mTold ns (mN (arg 2 m_grounds) (mCons (mVar 5) (mCons (mC .non) (mNil)))) Γ = .ok (.str "BadKind") ∧
    mTold ns (mN (arg 1 m_most_grounds) (mCons (mVar 5) (mNil))) Γ = .ok (.str "BadKind") ∧ mTold ns (mN (arg 1 m_free_places) (mCons (mVar 5) (mNil))) Γ = .ok (.str "BadKind") ∧ mTold ns (mMkX 2 m_Looker_initX (mCons (mVar 5) (mCons (mC .non) (mNil)))) Γ = .ok (.str "BadKind") :=
  ⟨mTold_exc (f1_ok h5 (dep_bad h)) (by decide), mTold_exc (f2_ok h5 rfl (decide_bad (word_badk h))) (by decide), mTold_exc (f2_ok h5 rfl (grounds_bad (word_badk h))) (by decide), mTold_exc (f1_ok h5 (most_bad h)) (by decide), mTold_exc (f1_ok h5 (free_bad h)) (by decide), mTold_exc (mMkX_exc (a2_ok h5 rfl) rfl (initX (word_badk h))) (by decide)⟩
theorem badw {kd d : D} (h : m_need_word [kd, d] = .exc "BadWord") {Γ : FL.Env} (h3 : mVar 3 Γ = .ok kd) (h5 : mVar 5 Γ = .ok d) : mTold ns (mN (arg 2 m_decide) (mCons (mVar 3) (mCons (mVar 5) (mNil)))) Γ = .ok (.str "BadWord") ∧ mTold ns (mN (arg 2 m_grounds) (mCons (mVar 3) (mCons (mVar 5) (mNil)))) Γ = .ok (.str "BadWord") ∧ mTold ns (mMkX 2 m_Looker_initX (mCons (mVar 3) (mCons (mVar 5) (mNil)))) Γ = .ok (.str "BadWord") :=
  ⟨mTold_exc (f2_ok h3 h5 (decide_bad h)) (by decide), mTold_exc (f2_ok h3 h5 (grounds_bad h)) (by decide), mTold_exc (mMkX_exc (a2_ok h3 h5) rfl (initX h)) (by decide)⟩
theorem gd_k : gd 8 (.lst [.str "BadKind", .str "BadKind", .str "BadKind", .str "BadKind", .str "BadKind", .str "BadKind"]) = true := by decide +kernel
theorem gd_w3 : gd 8 (.lst [.str "BadWord", .str "BadWord", .str "BadWord"]) = true := by decide +kernel
theorem gd_p : gd 8 (.str "BadPlace") = true := by decide +kernel
theorem gd_n : gd 8 (.str "Nothing") = true := by decide +kernel
theorem sMW_ok {C : Str} {i : Nat} {m : Str} {n : Nat} {f : WF} {ms : FL.Env → Out (List D)} {k : D → FL.Env → SO} {Γ : FL.Env} {q : Option Addr} {fs fs' : Ob} {ds : List D} {d : D} {o : SO} (h1 : objAt Γ i = some (C, q, fs)) (h2 : fs.lookup m = none) (h3 : ms Γ = .ok ds) (h4 : ds.length = n) (h5 : f.at q fs ds = .ok (d, fs')) (h6 : k d (Γ.set i (some (.obj C q fs'))) = o) : sMW C i m n f ms k Γ = o := by
  unfold sMW
  rw [h1]
  dsimp only
  rw [if_pos ⟨rfl, by rw [h2]; rfl⟩, h3]
  dsimp only [SO.ofA]
  rw [if_pos h4, h5]
  exact h6
theorem seq_rt {a b : FL.Env → SO} {Γ : FL.Env} {P : FL.Env → Prop} {o : SO} (h : Goes a Γ P) (k : ∀ Γ', P Γ' → b Γ' = o) : sSeq a b Γ = o := by
  obtain ⟨Γ', h1, h2⟩ := h
  rw [sSeq_nx h1]
  exact k Γ' h2
theorem law_true (ns : List Int) (hl : ns.length ≤ 63) : m_law [.scr ns] = .ok (.bl true) := by
  refine defM_rt ?_
  obtain ⟨t, ht, dm, em, et⟩ := times_val ns.length 4 (by omega)
  refine seq_rt (P := fun Γ => ∃ x1 x2 x3 x4 x5 x6 x7 x8 x9, Γ = [some (.dat (.scr ns)), x1, x2, x3, x4, x5, x6, x7, x8, x9]) (Goes.range (n := t) (fun _ Γ => ∃ x1 x2 x3 x4 x5 x6 x7 x8 x9, Γ = [some (.dat (.scr ns)), x1, x2, x3, x4, x5, x6, x7, x8, x9])
    (mI_ok (a1_ok (b2_ok (by rfl) (b2_ok (by rfl) (b1_ok (a := mVar 0) (by rfl) (dLen_scr ns)) em) et)) (rng1_nat (by omega))) ⟨_, _, _, _, _, _, _, _, _, rfl⟩ ?_) ?_
  rotate_left
  · rintro Γ' ⟨x1, x2, x3, x4, x5, x6, x7, x8, x9, rfl⟩
    have w26 := words_val 2 6 (by decide) (by decide)
    have w0 : (List.replicate 6 (0 : Int)) = [0, 0, 0, 0, 0, 0] := rfl
    refine (sSeq_nx (Γ' := [some (.dat (.scr ns)), x1, x2, x3, x4, x5, x6, x7, some (.dat (kD 2 6 [[0, 0, 0, 0, 0, 0]])), some (.dat (kD 2 6 (allw 2 6)))]) ?_).trans ?_
    · unfold sPar
      rw [a2_ok (x := kD 2 6 [[0, 0, 0, 0, 0, 0]]) (y := kD 2 6 (allw 2 6)) (by rfl) (mN_ok (mCons_ok rfl (mCons_ok rfl (a1_ok (f2_ok (x := .int ((2 : Nat) : Int)) (y := .int ((6 : Nat) : Int)) rfl rfl w26)))) rfl)]
      rfl
    have hz : ([0, 0, 0, 0, 0, 0] : List Int).length = 6 ∧ ∀ x ∈ ([0, 0, 0, 0, 0, 0] : List Int), 0 ≤ x ∧ x < ((2 : Nat) : Int) := ⟨rfl, by decide⟩
    have ho : ([0, 1, 1, 0, 0, 0] : List Int).length = 6 ∧ ∀ x ∈ ([0, 1, 1, 0, 0, 0] : List Int), 0 ≤ x ∧ x < ((2 : Nat) : Int) := ⟨rfl, by decide⟩
    have d1 := depth_val one_kind one_kok
    have d2 := depth_val whole_kind whole_kok
    have g1 := grounds_val whole_kind whole_kok hz
    have g2 := grounds_val one_kind one_kok ho
    have m1 := most_val one_kind one_kok
    have f1 := free_val whole_kind whole_kok
    rw [dep_one] at d1
    rw [dep_whole] at d2
    rw [gr_whole] at g1
    rw [gr_one] at g2
    rw [most_one] at m1
    rw [free_whole] at f1
    refine (sSeq_nx (sIf_no ?_)).trans ?_
    · rw [tOr_ok (x := false) (y := false) (mT_ok (m2_ok (f1_ok (x := kD 2 6 [[0, 0, 0, 0, 0, 0]]) rfl d1) rfl (by rfl))) fun _ => ?_]
      · rfl
      · rw [tOr_ok (x := false) (y := false) (mT_ok (m2_ok (f1_ok (x := kD 2 6 (allw 2 6)) rfl d2) rfl (by rfl))) fun _ => mT_ok (m2_ok (f2_ok (x := kD 2 6 (allw 2 6)) (y := wD [0, 0, 0, 0, 0, 0]) rfl (by rfl) g1) (by rfl) (by rfl))]
        rfl
    refine (sSeq_nx (sIf_no (mT_ok (m2_ok (f2_ok (x := kD 2 6 [[0, 0, 0, 0, 0, 0]]) (y := wD [0, 1, 1, 0, 0, 0]) rfl (by rfl) g2) (by rfl) (by rfl))))).trans ?_
    refine sRet_ok ?_
    refine (mAnd_bl (x := true) (y := true) (m2_ok (f1_ok (x := kD 2 6 [[0, 0, 0, 0, 0, 0]]) rfl m1) (by rfl) (by rfl)) fun _ => m2_ok (f1_ok (x := kD 2 6 (allw 2 6)) rfl f1) (by rfl) (by rfl))
  rintro k Γ hk ⟨x1, x2, x3, x4, x5, x6, x7, x8, x9, rfl⟩
  simp only [List.set_cons_zero, List.set_cons_succ]
  obtain ⟨cell, ec⟩ := cell_val ns k (by omega) hl
  obtain ⟨more, ed, hm0, hm1⟩ := drawn_val cell (k : Nat) (by omega) (by omega)
  obtain ⟨L, n, ws, ek, KD, hn3⟩ := kind_drawn more 3 hm0 (by omega) (by omega)
  have hL := KD.l
  have hn1 := KD.n1
  have ew := words_val L n (by omega) (by omega)
  have hrl := allw_len L n
  have hpl : L ^ n ≤ 27 := by
    calc L ^ n ≤ 3 ^ n := Nat.pow_le_pow_left (by omega) n
      _ ≤ 3 ^ 3 := Nat.pow_le_pow_right (by decide) hn3
      _ = 27 := by decide
  have hpos : 1 ≤ L ^ n := Nat.pow_pos (by omega)
  have hmem : ∀ w ∈ allw L n, w.length = n ∧ ∀ x ∈ w, 0 ≤ x ∧ x < (L : Int) := fun w hw => allw_mem.mp hw
  have hwl : ws.length ≤ (allw L n).length := nodup_le KD.nodup fun w hw => allw_mem.mpr (KD.w w hw)
  have hk9 : KOk L n ws := KD.kok (by
    have := Nat.mul_le_mul (show ws.length ≤ 27 by omega) hn3
    omega)
  obtain ⟨w0, rest, hrow⟩ : ∃ w0 rest, allw L n = w0 :: rest := by
    cases h : allw L n with
    | nil => rw [h] at hrl; simp at hrl; omega
    | cons a b => exact ⟨a, b, rfl⟩
  have hw0 := hmem w0 (by rw [hrow]; exact List.mem_cons_self)
  have i0 : dIx (wsD (allw L n)) (.int 0) = .ok (wD w0) := by
    rw [hrow]
    exact dIx_lst (j := 0) rfl rfl
  refine .seq (sSet_ok (f2_ok (f2_ok (by rfl) (by rfl) ec) (by rfl) ed)) ?_
  simp only [List.set_cons_zero, List.set_cons_succ]
  refine .seq (sSet_ok (f2_ok (by rfl) (by rfl) ek)) ?_
  simp only [List.set_cons_zero, List.set_cons_succ]
  refine .seq (sSet_ok (f2_ok (x := .int (L : Nat)) (y := .int (n : Nat)) (by rfl) (by rfl) ew)) ?_
  simp only [List.set_cons_zero, List.set_cons_succ]
  -- kinds that are none
  refine .seq' (Q := fun Γ => ∃ y5 y6, Γ = [some (.dat (.scr ns)), some (.dat (.int (k : Nat))), some (.dat (.int more)), some (.dat (kD L n ws)), some (.dat (wsD (allw L n))), y5, y6, x7, x8, x9]) ?_ ?_
  · refine Goes.for (fun _ Γ => ∃ y5 y6, Γ = [some (.dat (.scr ns)), some (.dat (.int (k : Nat))), some (.dat (.int more)), some (.dat (kD L n ws)), some (.dat (wsD (allw L n))), y5, y6, x7, x8, x9]) (ds := [kD L n [], kD 1 1 [[0]], kD 4 1 [[0]], kD 2 7 [List.replicate 7 0], kD 2 1 [[1], [0]]]) (by rfl) ⟨_, _, rfl⟩ ?_
    rintro i d Γ hd ⟨y5, y6, rfl⟩
    refine ⟨_, rfl, ?_⟩
    simp only [List.set_cons_zero, List.set_cons_succ]
    have hb : m_need_kind [d] = .exc "BadKind" := by
      have hmd := List.mem_of_getElem? hd
      simp only [List.mem_cons, List.not_mem_nil, or_false] at hmd
      rcases hmd with rfl | rfl | rfl | rfl | rfl
      · exact kd_bad (fun w hw => by simp at hw) (by simp) (.inl (by unfold kindOk; simp))
      · exact kd_bad (by decide) (by decide) (.inl (by decide))
      · exact kd_bad (by decide) (by decide) (.inl (by decide))
      · exact kd_bad (by decide) (by decide) (.inl (by decide))
      · exact kd_bad (by decide) (by decide) (.inr (.inr (by decide)))
    obtain ⟨b1, b2, b3, b4, b5, b6⟩ := badk hb (Γ := [some (.dat (.scr ns)), some (.dat (.int (k : Nat))), some (.dat (.int more)), some (.dat (kD L n ws)), some (.dat (wsD (allw L n))), some (.dat d), y6, x7, x8, x9]) rfl
    refine .seq (sOwn_ok (ds := [.str "BadKind"]) (a1_ok b1) (by decide)) ?_
    simp only [List.set_cons_zero, List.set_cons_succ]
    have bk := fun y => badk hb (Γ := [some (.dat (.scr ns)), some (.dat (.int (k : Nat))), some (.dat (.int more)), some (.dat (kD L n ws)), some (.dat (wsD (allw L n))), some (.dat d), y, x7, x8, x9]) rfl
    refine .seq (sApp_ok (ds := [.str "BadKind"]) rfl (bk _).2.1 (by decide)) ?_
    simp only [List.set_cons_zero, List.set_cons_succ]
    refine .seq (sApp_ok (ds := [.str "BadKind", .str "BadKind"]) rfl (bk _).2.2.1 (by decide)) ?_
    simp only [List.set_cons_zero, List.set_cons_succ]
    refine .seq (sApp_ok (ds := [.str "BadKind", .str "BadKind", .str "BadKind"]) rfl (bk _).2.2.2.1 (by decide)) ?_
    simp only [List.set_cons_zero, List.set_cons_succ]
    refine .seq (sApp_ok (ds := [.str "BadKind", .str "BadKind", .str "BadKind", .str "BadKind"]) rfl (bk _).2.2.2.2.1 (by decide)) ?_
    simp only [List.set_cons_zero, List.set_cons_succ]
    refine .seq (sApp_ok (ds := [.str "BadKind", .str "BadKind", .str "BadKind", .str "BadKind", .str "BadKind"]) rfl (bk _).2.2.2.2.2 (by decide)) ?_
    simp only [List.set_cons_zero, List.set_cons_succ]
    exact .frz (.end (sIf_no (mT_ok (m2_ok (x := .lst [.str "BadKind", .str "BadKind", .str "BadKind", .str "BadKind", .str "BadKind", .str "BadKind"]) (y := .lst [.str "BadKind", .str "BadKind", .str "BadKind", .str "BadKind", .str "BadKind", .str "BadKind"]) rfl (by rfl) (dNe_self gd_k)))) ⟨_, _, rfl⟩)
  rintro Γ ⟨y5, y6, rfl⟩
  -- words that are none
  have hadd : dAdd (wD w0) (.tup [.int 0]) = .ok (wD (w0 ++ [0])) := dAdd_w w0 [0] (by rw [hw0.1]; simp; omega)
  have hmL := mul_tup (.int (L : Nat)) n hn1 (by omega)
  have hmT := mul_tup (.bl true) n hn1 (by omega)
  have hrepL : (List.replicate n (D.int (L : Nat))) = (List.replicate n ((L : Nat) : Int)).map D.int := by rw [List.map_replicate]
  refine .seq' (Q := fun Γ => ∃ y5 y6, Γ = [some (.dat (.scr ns)), some (.dat (.int (k : Nat))), some (.dat (.int more)), some (.dat (kD L n ws)), some (.dat (wsD (allw L n))), y5, y6, x7, x8, x9]) ?_ ?_
  · refine Goes.for (fun _ Γ => ∃ y5 y6, Γ = [some (.dat (.scr ns)), some (.dat (.int (k : Nat))), some (.dat (.int more)), some (.dat (kD L n ws)), some (.dat (wsD (allw L n))), y5, y6, x7, x8, x9]) (ds := [.non, wD [], wD (w0 ++ [0]), wD (List.replicate n ((L : Nat) : Int)), .lst (w0.map D.int), .tup (List.replicate n (.bl true))]) ?_ ⟨_, _, rfl⟩ ?_
    · show (mN dLst _ _).bind items = _
      rw [mN_ok (f := dLst) (mCons_ok (x := .non) rfl (mCons_ok (x := wD []) rfl (mCons_ok (m2_ok (m2_ok (x := wsD (allw L n)) (y := .int 0) rfl rfl i0) rfl hadd) (mCons_ok (m2_ok (x := .tup [.int (L : Nat)]) (y := .int (n : Nat)) rfl rfl hmL) (mCons_ok (b1_ok (x := wD w0) (o := .ok (.lst (w0.map D.int))) (m2_ok (x := wsD (allw L n)) (y := .int 0) rfl rfl i0) rfl) (a1_ok (m2_ok (x := .tup [.bl true]) (y := .int (n : Nat)) rfl rfl hmT))))))) rfl]
      rw [hrepL]
      rfl
    rintro i d Γ hd ⟨y5, y6, rfl⟩
    refine ⟨_, rfl, ?_⟩
    simp only [List.set_cons_zero, List.set_cons_succ]
    have hb : m_need_word [kD L n ws, d] = .exc "BadWord" := by
      have hmd := List.mem_of_getElem? hd
      simp only [List.mem_cons, List.not_mem_nil, or_false] at hmd
      refine word_bad KD ?_
      rcases hmd with rfl | rfl | rfl | rfl | rfl | rfl
      · exact isw_not rfl
      · rw [isw_val [] _ _ (by simp), isW_len (by simp; omega)]
      · rw [isw_val _ _ _ (by rw [List.length_append, hw0.1]; simp; omega), isW_len (by rw [List.length_append, hw0.1]; simp; omega)]
      · rw [isw_val _ _ _ (by simp; omega), isW_rep hn1 (by omega)]
      · exact isw_not rfl
      · exact isw_true hn1 (by omega)
    have bw := fun y => badw hb (Γ := [some (.dat (.scr ns)), some (.dat (.int (k : Nat))), some (.dat (.int more)), some (.dat (kD L n ws)), some (.dat (wsD (allw L n))), some (.dat d), y, x7, x8, x9]) rfl rfl
    refine .seq (sOwn_ok (ds := [.str "BadWord"]) (a1_ok (bw _).1) (by decide)) ?_
    simp only [List.set_cons_zero, List.set_cons_succ]
    refine .seq (sApp_ok (ds := [.str "BadWord"]) rfl (bw _).2.1 (by decide)) ?_
    simp only [List.set_cons_zero, List.set_cons_succ]
    refine .seq (sApp_ok (ds := [.str "BadWord", .str "BadWord"]) rfl (bw _).2.2 (by decide)) ?_
    simp only [List.set_cons_zero, List.set_cons_succ]
    exact .frz (.end (sIf_no (mT_ok (m2_ok (x := .lst [.str "BadWord", .str "BadWord", .str "BadWord"]) (y := .lst [.str "BadWord", .str "BadWord", .str "BadWord"]) rfl (by rfl) (dNe_self gd_w3)))) ⟨_, _, rfl⟩)
  rintro Γ ⟨z5, z6, rfl⟩
  -- a looker
  have o3 : dDiv (.int more) (.int 64) = .ok (.int (more / 64)) := dDiv_64 (by omega) (by omega)
  have q1 := Int.emod_nonneg (more / 64) (b := ((allw L n).length : Nat)) (by omega)
  have q2 := Int.emod_lt_of_pos (more / 64) (b := ((allw L n).length : Nat)) (by omega)
  have o4 : dMod (.int (more / 64)) (.int ((allw L n).length : Nat)) = .ok (.int (more / 64 % ((allw L n).length : Nat))) := dMod_ok (by omega)
  have o5 := ix_mapAt wD [] (xs := allw L n) q1 q2
  obtain ⟨w, hw⟩ : ∃ w, w = (allw L n).getD (more / 64 % ((allw L n).length : Nat)).toNat [] := ⟨_, rfl⟩
  rw [← hw] at o5
  have hwm : w ∈ allw L n := by
    have : (more / 64 % ((allw L n).length : Nat)).toNat < (allw L n).length := by omega
    rw [hw]
    simp [List.getD, this]
  have hwok := hmem w hwm
  refine .seq (Γ' := [some (.dat (.scr ns)), some (.dat (.int (k : Nat))), some (.dat (.int more)), some (.dat (kD L n ws)), some (.dat (wsD (allw L n))), z5, z6, some (.obj "Looker" none (lk L n ws w [] [])), x8, x9]) ?_ ?_
  · unfold sMk
    rw [a2_ok (x := kD L n ws) (y := wD w) rfl (m2_ok (x := wsD (allw L n)) rfl (m2_ok (m2_ok (x := .int more) (y := .int 64) rfl rfl o3) (b1_ok (x := wsD (allw L n)) rfl (len_wsD _)) o4) o5)]
    dsimp only [SO.ofA]
    rw [if_pos (show [kD (L : Nat) (n : Nat) ws, wD w].length = 2 from rfl), init_at KD hk9 hwok]
    rfl
  refine .seq' (Q := fun Γ => ∃ y5, Γ = [some (.dat (.scr ns)), some (.dat (.int (k : Nat))), some (.dat (.int more)), some (.dat (kD L n ws)), some (.dat (wsD (allw L n))), y5, z6, some (.obj "Looker" none (lk L n ws w [] [])), x8, x9]) ?_ ?_
  · refine Goes.for (fun _ Γ => ∃ y5, Γ = [some (.dat (.scr ns)), some (.dat (.int (k : Nat))), some (.dat (.int more)), some (.dat (kD L n ws)), some (.dat (wsD (allw L n))), y5, z6, some (.obj "Looker" none (lk L n ws w [] [])), x8, x9]) (ds := [.int (-1), .int (n : Nat), .non, .bl true, .str "0", .tup [.int 0]]) (by rfl) ⟨_, rfl⟩ ?_
    rintro i d Γ hd ⟨y5, rfl⟩
    refine ⟨_, rfl, ?_⟩
    simp only [List.set_cons_zero, List.set_cons_succ]
    have hb : tLook [some (Sl.rob "Looker" (lk L n ws w [] [])), some (.dat d)] = .ok true := by
      have hmd := List.mem_of_getElem? hd
      simp only [List.mem_cons, List.not_mem_nil, or_false] at hmd
      rcases hmd with rfl | rfl | rfl | rfl | rfl | rfl
      · rw [look_int (.inl rfl)]
        rfl
      · rw [look_int (.inl rfl), hwok.1]
        simp
      · rfl
      · rfl
      · rfl
      · rfl
    refine .end (sIf_no ?_) ⟨_, rfl⟩
    refine (tOr_ok (x := false) (y := false) (mT_ok (m2_ok (x := .str "BadPlace") (y := .str "BadPlace") (mTold_exc (mMR_ok (fs := lk L n ws w [] []) (ds := [d]) rfl rfl rfl rfl (lookX_first hb)) (by decide)) rfl (dNe_self gd_p))) fun _ => mT_ok (m2_ok (x := .lst []) (y := .lst []) (mMR_ok (fs := lk L n ws w [] []) (ds := []) rfl rfl rfl rfl lookedR_val) (by rfl) (dNe_self (by rfl)))).trans rfl
  rintro Γ ⟨u5, rfl⟩
  have hwp : 0 < w.length := by omega
  refine .seq (Γ' := [some (.dat (.scr ns)), some (.dat (.int (k : Nat))), some (.dat (.int more)), some (.dat (kD L n ws)), some (.dat (wsD (allw L n))), u5, z6, some (.obj "Looker" none (lk L n ws w [.int 0] [])), x8, x9]) ?_ ?_
  · exact sMW_ok (fs := lk L n ws w [] []) (fs' := lk L n ws w [.int 0] []) (ds := [.int 0]) rfl rfl rfl rfl (lookW_at hwp) rfl
  refine .seq (sIf_no (mT_ok (m2_ok (x := .str "BadPlace") (y := .str "BadPlace") (mTold_exc (mMR_ok (fs := lk L n ws w [.int 0] []) (ds := [.int 0]) rfl rfl rfl rfl (lookX_again hwp)) (by decide)) rfl (dNe_self gd_p)))) ?_
  refine .seq (sIf_no (mT_ok (m2_ok (x := .str "Nothing") (y := .str "Nothing") (mTold_exc (mMR_ok (fs := lk L n ws w [.int 0] []) (ds := []) rfl rfl rfl rfl redoX_val) (by decide)) rfl (dNe_self gd_n)))) ?_
  exact .end (sIf_no (mT_ok (m2_ok (x := .lst [.int 0]) (y := .lst [.int 0]) (mMR_ok (fs := lk L n ws w [.int 0] []) (ds := []) rfl rfl rfl rfl lookedR_val) (by rfl) (dNe_self (by rfl))))) ⟨_, _, _, _, _, _, _, _, _, rfl⟩
end K91
set_option Elab.async false
set_option linter.all false
set_option maxRecDepth 100000
set_option maxHeartbeats 4000000
namespace K91
open PySem PySem.Spec PyProof.Rows L2 LamX FL
def d_is_word : He.DefD := ⟨("is_word", none), "is_word", "is_word", defArgs (topS 14), defBody (topS 14), defScope (topS 14), [], []⟩
def d_need_kind : He.DefD := ⟨("need_kind", none), "need_kind", "need_kind", defArgs (topS 15), defBody (topS 15), defScope (topS 15), [], []⟩
def d_need_word : He.DefD := ⟨("need_word", none), "need_word", "need_word", defArgs (topS 16), defBody (topS 16), defScope (topS 16), [], []⟩
def d_all_words : He.DefD := ⟨("all_words", none), "all_words", "all_words", defArgs (topS 17), defBody (topS 17), defScope (topS 17), [], []⟩
def d_depth : He.DefD := ⟨("depth", none), "depth", "depth", defArgs (topS 20), defBody (topS 20), defScope (topS 20), [], []⟩
def d_decide : He.DefD := ⟨("decide", none), "decide", "decide", defArgs (topS 21), defBody (topS 21), defScope (topS 21), [], []⟩
def d_choices : He.DefD := ⟨("choices", none), "choices", "choices", defArgs (topS 22), defBody (topS 22), defScope (topS 22), [], []⟩
def d_grounds_of : He.DefD := ⟨("grounds_of", none), "grounds_of", "grounds_of", defArgs (topS 23), defBody (topS 23), defScope (topS 23), [], []⟩
def d_grounds : He.DefD := ⟨("grounds", none), "grounds", "grounds", defArgs (topS 24), defBody (topS 24), defScope (topS 24), [], []⟩
def d_most_grounds : He.DefD := ⟨("most_grounds", none), "most_grounds", "most_grounds", defArgs (topS 25), defBody (topS 25), defScope (topS 25), [], []⟩
def d_free_places : He.DefD := ⟨("free_places", none), "free_places", "free_places", defArgs (topS 26), defBody (topS 26), defScope (topS 26), [], []⟩
def d_L_cell : He.DefD := ⟨("_law_cell", none), "_law_cell", "_law_cell", defArgs (topS 30), defBody (topS 30), defScope (topS 30), [], []⟩
def d_L_drawn : He.DefD := ⟨("_law_drawn", none), "_law_drawn", "_law_drawn", defArgs (topS 31), defBody (topS 31), defScope (topS 31), [], []⟩
def d_L_word : He.DefD := ⟨("_law_word", none), "_law_word", "_law_word", defArgs (topS 32), defBody (topS 32), defScope (topS 32), [], []⟩
def d_L_told : He.DefD := ⟨("_law_told", none), "_law_told", "_law_told", defArgs (topS 33), defBody (topS 33), defScope (topS 33), [], []⟩
def d_L_words : He.DefD := ⟨("_law_words", none), "_law_words", "_law_words", defArgs (topS 34), defBody (topS 34), defScope (topS 34), [], []⟩
def d_L_kind : He.DefD := ⟨("_law_kind", none), "_law_kind", "_law_kind", defArgs (topS 35), defBody (topS 35), defScope (topS 35), [], []⟩
def d_law : He.DefD := ⟨("law", none), "law", "law", defArgs (topS 36), defBody (topS 36), defScope (topS 36), [], []⟩
def d_Plan_init : He.DefD := ⟨("Plan", some "__init__"), "__init__", "Plan.__init__", defArgs (clsS (topS 19) 0), defBody (clsS (topS 19) 0), defScope (clsS (topS 19) 0), [], []⟩
def d_Plan_with_letter : He.DefD := ⟨("Plan", some "with_letter"), "with_letter", "Plan.with_letter", defArgs (clsS (topS 19) 1), defBody (clsS (topS 19) 1), defScope (clsS (topS 19) 1), [], []⟩
def d_Plan_so_many : He.DefD := ⟨("Plan", some "so_many"), "so_many", "Plan.so_many", defArgs (clsS (topS 19) 2), defBody (clsS (topS 19) 2), defScope (clsS (topS 19) 2), [], []⟩
def d_Plan_all_many : He.DefD := ⟨("Plan", some "all_many"), "all_many", "Plan.all_many", defArgs (clsS (topS 19) 3), defBody (clsS (topS 19) 3), defScope (clsS (topS 19) 3), [], []⟩
def d_Plan_verdict : He.DefD := ⟨("Plan", some "verdict"), "verdict", "Plan.verdict", defArgs (clsS (topS 19) 4), defBody (clsS (topS 19) 4), defScope (clsS (topS 19) 4), [], []⟩
def d_Plan_depth_by : He.DefD := ⟨("Plan", some "depth_by"), "depth_by", "Plan.depth_by", defArgs (clsS (topS 19) 5), defBody (clsS (topS 19) 5), defScope (clsS (topS 19) 5), [], []⟩
def d_Plan_depth : He.DefD := ⟨("Plan", some "depth"), "depth", "Plan.depth", defArgs (clsS (topS 19) 6), defBody (clsS (topS 19) 6), defScope (clsS (topS 19) 6), [], []⟩
def d_Plan_best : He.DefD := ⟨("Plan", some "best"), "best", "Plan.best", defArgs (clsS (topS 19) 7), defBody (clsS (topS 19) 7), defScope (clsS (topS 19) 7), [], []⟩
def d_Plan_nothing : He.DefD := ⟨("Plan", some "nothing"), "nothing", "Plan.nothing", defArgs (clsS (topS 19) 8), defBody (clsS (topS 19) 8), defScope (clsS (topS 19) 8), [], []⟩
def d_Looker_init : He.DefD := ⟨("Looker", some "__init__"), "__init__", "Looker.__init__", defArgs (clsS (topS 28) 0), defBody (clsS (topS 28) 0), defScope (clsS (topS 28) 0), [], []⟩
def d_Looker_look : He.DefD := ⟨("Looker", some "look"), "look", "Looker.look", defArgs (clsS (topS 28) 2), defBody (clsS (topS 28) 2), defScope (clsS (topS 28) 2), [], []⟩
def d_Looker_looked : He.DefD := ⟨("Looker", some "looked"), "looked", "Looker.looked", defArgs (clsS (topS 28) 6), defBody (clsS (topS 28) 6), defScope (clsS (topS 28) 6), [], []⟩
def d_Looker_redo : He.DefD := ⟨("Looker", some "redo"), "redo", "Looker.redo", defArgs (clsS (topS 28) 4), defBody (clsS (topS 28) 4), defScope (clsS (topS 28) 4), [], []⟩
def fn : List He.DefD := [d_is_word, d_need_kind, d_need_word, d_all_words, d_depth, d_decide, d_choices, d_grounds_of, d_grounds, d_most_grounds, d_free_places, d_L_cell, d_L_drawn, d_L_word, d_L_told, d_L_words, d_L_kind, d_law, d_Plan_init, d_Plan_with_letter, d_Plan_so_many, d_Plan_all_many, d_Plan_verdict, d_Plan_depth_by, d_Plan_depth, d_Plan_best, d_Plan_nothing, d_Looker_init, d_Looker_look, d_Looker_looked, d_Looker_redo]
def fa : List He.Fa := [.glo "is_word", .glo "need_kind", .glo "need_word", .glo "all_words", .glo "depth", .glo "decide", .glo "choices", .glo "grounds_of", .glo "grounds", .glo "most_grounds", .glo "free_places", .glo "_law_cell", .glo "_law_drawn", .glo "_law_word", .glo "_law_told", .glo "_law_words", .glo "_law_kind", .glo "law", .glo "LookError", .glo "BadKind", .glo "BadWord", .glo "BadTest", .glo "BadRow", .glo "BadTable", .glo "BadWeb", .glo "NoFar", .glo "BadPlace", .glo "Nothing", .glo "Plan", .cls "Plan", .noat "Plan" "letters", .noat "Plan" "long", .noat "Plan" "words", .noat "Plan" "counts", .noat "Plan" "depths", .meth "Plan" "with_letter", .meth "Plan" "so_many", .meth "Plan" "all_many", .meth "Plan" "verdict", .meth "Plan" "depth_by", .meth "Plan" "depth", .meth "Plan" "best", .meth "Plan" "nothing", .mkr "Plan", .glo "Looker", .cls "Looker", .noat "Looker" "plan", .noat "Looker" "word", .noat "Looker" "places", .noat "Looker" "taken", .meth "Looker" "look", .meth "Looker" "looked", .meth "Looker" "redo", .mkr "Looker", .exc "BadKind", .exc "BadWord", .exc "BadTest", .exc "BadRow", .exc "BadTable", .exc "BadWeb", .exc "NoFar", .exc "BadPlace", .exc "Nothing", .exm "BadKind" "LookError" true, .exm "BadWord" "LookError" true, .exm "BadTest" "LookError" true, .exm "BadRow" "LookError" true, .exm "BadTable" "LookError" true, .exm "BadWeb" "LookError" true, .exm "NoFar" "LookError" true, .exm "BadPlace" "LookError" true, .exm "Nothing" "LookError" true, .free "ValueError", .free "all", .free "bool", .free "dict", .free "enumerate", .free "int", .free "isinstance", .free "len", .free "list", .free "max", .free "min", .free "range", .free "set", .free "sorted", .free "sum", .free "tuple", .free "zip", .int "MOST_LONG" 6]
def ex (K : PySem.W.Frag) : Bool := wordB K ns
def tf : List He.Defn := [("law", none)]
abbrev R : PySem.W.OpenRow := PySem.W.OpenLaw.row PySem.Challenge.rw_fewlooks_k91_lookers_refused
abbrev hk : PySem.W.Hook := He.hookX 6 fa fn [] tf ex
def ob (s : PySem.W.SharedT) : He.AlX := He.obsX 6 fa fn [] tf ex (HandSHeadRun.getT s)
theorem ob_eq (s : PySem.W.SharedT) : ob s = hk.obs s.abs := He.obsX_eq (HandSHeadRun.getT_eq s)
def loose : List Str := (["_wall", "MOST_LONG", "LookError", "BadKind", "BadWord", "BadTest", "BadRow", "BadTable", "BadWeb", "NoFar", "BadPlace", "Nothing", "is_word", "need_kind", "need_word", "all_words", "Plan", "depth", "decide", "choices", "grounds_of", "grounds", "most_grounds", "free_places", "Looker", "_law_cell", "_law_drawn", "_law_word", "_law_told", "_law_words"] : List Str) ++ (["_law_kind"] : List Str)
set_option maxHeartbeats 0 in
theorem run (w : World) : HandSHeadRun.RunEq R (PySem.W.view R.prog [36]) hk ob 4000 loose w := by
  intro os
  kernel_rfl
def TB0 (K : PySem.W.Frag) : FL.Tb := ⟨[((He.cT K ("law", none)).2, ("law" ++ ".<locals>.") ++ "<lambda>")], K⟩
theorem facts {P : Program} {w : World} {K : PySem.W.Frag} {h base : Heap} {mg : Str → Option Value} (X : K.In h) (G0 : h.Ns mainGlobals mg) (c : He.SaysD fa fn K) (cx : ex K = true) (TB : ∀ p ∈ tf.map (He.cT K), TabB base mg p.1 p.2) {fd : FuncData} (FL0 : FunD K "law" "law" (defArgs (topS 36)) (defBody (topS 36)) (defScope (topS 36)) [] [] (He.ga K "law") fd) : FnOk P w K mg base (L2N.CX P w) 30 (He.ga K "law") fd ["script"] (spOf K mg (TB0 K) 1 m_law) := by
  obtain ⟨fd_is_word, F_is_word⟩ := c.def_ 0 (d := d_is_word) rfl
  obtain ⟨fd_need_kind, F_need_kind⟩ := c.def_ 1 (d := d_need_kind) rfl
  obtain ⟨fd_need_word, F_need_word⟩ := c.def_ 2 (d := d_need_word) rfl
  obtain ⟨fd_all_words, F_all_words⟩ := c.def_ 3 (d := d_all_words) rfl
  obtain ⟨fd_depth, F_depth⟩ := c.def_ 4 (d := d_depth) rfl
  obtain ⟨fd_decide, F_decide⟩ := c.def_ 5 (d := d_decide) rfl
  obtain ⟨fd_choices, F_choices⟩ := c.def_ 6 (d := d_choices) rfl
  obtain ⟨fd_grounds_of, F_grounds_of⟩ := c.def_ 7 (d := d_grounds_of) rfl
  obtain ⟨fd_grounds, F_grounds⟩ := c.def_ 8 (d := d_grounds) rfl
  obtain ⟨fd_most_grounds, F_most_grounds⟩ := c.def_ 9 (d := d_most_grounds) rfl
  obtain ⟨fd_free_places, F_free_places⟩ := c.def_ 10 (d := d_free_places) rfl
  obtain ⟨fd_L_cell, F_L_cell⟩ := c.def_ 11 (d := d_L_cell) rfl
  obtain ⟨fd_L_drawn, F_L_drawn⟩ := c.def_ 12 (d := d_L_drawn) rfl
  obtain ⟨fd_L_word, F_L_word⟩ := c.def_ 13 (d := d_L_word) rfl
  obtain ⟨fd_L_told, F_L_told⟩ := c.def_ 14 (d := d_L_told) rfl
  obtain ⟨fd_L_words, F_L_words⟩ := c.def_ 15 (d := d_L_words) rfl
  obtain ⟨fd_L_kind, F_L_kind⟩ := c.def_ 16 (d := d_L_kind) rfl
  obtain ⟨fd_law, F_law⟩ := c.def_ 17 (d := d_law) rfl
  obtain ⟨fd_Plan_init, F_Plan_init⟩ := c.def_ 18 (d := d_Plan_init) rfl
  obtain ⟨fd_Plan_with_letter, F_Plan_with_letter⟩ := c.def_ 19 (d := d_Plan_with_letter) rfl
  obtain ⟨fd_Plan_so_many, F_Plan_so_many⟩ := c.def_ 20 (d := d_Plan_so_many) rfl
  obtain ⟨fd_Plan_all_many, F_Plan_all_many⟩ := c.def_ 21 (d := d_Plan_all_many) rfl
  obtain ⟨fd_Plan_verdict, F_Plan_verdict⟩ := c.def_ 22 (d := d_Plan_verdict) rfl
  obtain ⟨fd_Plan_depth_by, F_Plan_depth_by⟩ := c.def_ 23 (d := d_Plan_depth_by) rfl
  obtain ⟨fd_Plan_depth, F_Plan_depth⟩ := c.def_ 24 (d := d_Plan_depth) rfl
  obtain ⟨fd_Plan_best, F_Plan_best⟩ := c.def_ 25 (d := d_Plan_best) rfl
  obtain ⟨fd_Plan_nothing, F_Plan_nothing⟩ := c.def_ 26 (d := d_Plan_nothing) rfl
  obtain ⟨fd_Looker_init, F_Looker_init⟩ := c.def_ 27 (d := d_Looker_init) rfl
  obtain ⟨fd_Looker_look, F_Looker_look⟩ := c.def_ 28 (d := d_Looker_look) rfl
  obtain ⟨fd_Looker_looked, F_Looker_looked⟩ := c.def_ 29 (d := d_Looker_looked) rfl
  obtain ⟨fd_Looker_redo, F_Looker_redo⟩ := c.def_ 30 (d := d_Looker_redo) rfl
  have g_is_word : mg "is_word" = some (.ref (He.ga K "is_word")) := He.glo_ok X G0 (c.fact 0 (f := .glo "is_word") rfl)
  have g_need_kind : mg "need_kind" = some (.ref (He.ga K "need_kind")) := He.glo_ok X G0 (c.fact 1 (f := .glo "need_kind") rfl)
  have g_need_word : mg "need_word" = some (.ref (He.ga K "need_word")) := He.glo_ok X G0 (c.fact 2 (f := .glo "need_word") rfl)
  have g_all_words : mg "all_words" = some (.ref (He.ga K "all_words")) := He.glo_ok X G0 (c.fact 3 (f := .glo "all_words") rfl)
  have g_depth : mg "depth" = some (.ref (He.ga K "depth")) := He.glo_ok X G0 (c.fact 4 (f := .glo "depth") rfl)
  have g_decide : mg "decide" = some (.ref (He.ga K "decide")) := He.glo_ok X G0 (c.fact 5 (f := .glo "decide") rfl)
  have g_choices : mg "choices" = some (.ref (He.ga K "choices")) := He.glo_ok X G0 (c.fact 6 (f := .glo "choices") rfl)
  have g_grounds_of : mg "grounds_of" = some (.ref (He.ga K "grounds_of")) := He.glo_ok X G0 (c.fact 7 (f := .glo "grounds_of") rfl)
  have g_grounds : mg "grounds" = some (.ref (He.ga K "grounds")) := He.glo_ok X G0 (c.fact 8 (f := .glo "grounds") rfl)
  have g_most_grounds : mg "most_grounds" = some (.ref (He.ga K "most_grounds")) := He.glo_ok X G0 (c.fact 9 (f := .glo "most_grounds") rfl)
  have g_free_places : mg "free_places" = some (.ref (He.ga K "free_places")) := He.glo_ok X G0 (c.fact 10 (f := .glo "free_places") rfl)
  have g_L_cell : mg "_law_cell" = some (.ref (He.ga K "_law_cell")) := He.glo_ok X G0 (c.fact 11 (f := .glo "_law_cell") rfl)
  have g_L_drawn : mg "_law_drawn" = some (.ref (He.ga K "_law_drawn")) := He.glo_ok X G0 (c.fact 12 (f := .glo "_law_drawn") rfl)
  have g_L_word : mg "_law_word" = some (.ref (He.ga K "_law_word")) := He.glo_ok X G0 (c.fact 13 (f := .glo "_law_word") rfl)
  have g_L_told : mg "_law_told" = some (.ref (He.ga K "_law_told")) := He.glo_ok X G0 (c.fact 14 (f := .glo "_law_told") rfl)
  have g_L_words : mg "_law_words" = some (.ref (He.ga K "_law_words")) := He.glo_ok X G0 (c.fact 15 (f := .glo "_law_words") rfl)
  have g_L_kind : mg "_law_kind" = some (.ref (He.ga K "_law_kind")) := He.glo_ok X G0 (c.fact 16 (f := .glo "_law_kind") rfl)
  have g_law : mg "law" = some (.ref (He.ga K "law")) := He.glo_ok X G0 (c.fact 17 (f := .glo "law") rfl)
  have g_LookError : mg "LookError" = some (.ref (He.ga K "LookError")) := He.glo_ok X G0 (c.fact 18 (f := .glo "LookError") rfl)
  have g_BadKind : mg "BadKind" = some (.ref (He.ga K "BadKind")) := He.glo_ok X G0 (c.fact 19 (f := .glo "BadKind") rfl)
  have g_BadWord : mg "BadWord" = some (.ref (He.ga K "BadWord")) := He.glo_ok X G0 (c.fact 20 (f := .glo "BadWord") rfl)
  have g_BadTest : mg "BadTest" = some (.ref (He.ga K "BadTest")) := He.glo_ok X G0 (c.fact 21 (f := .glo "BadTest") rfl)
  have g_BadRow : mg "BadRow" = some (.ref (He.ga K "BadRow")) := He.glo_ok X G0 (c.fact 22 (f := .glo "BadRow") rfl)
  have g_BadTable : mg "BadTable" = some (.ref (He.ga K "BadTable")) := He.glo_ok X G0 (c.fact 23 (f := .glo "BadTable") rfl)
  have g_BadWeb : mg "BadWeb" = some (.ref (He.ga K "BadWeb")) := He.glo_ok X G0 (c.fact 24 (f := .glo "BadWeb") rfl)
  have g_NoFar : mg "NoFar" = some (.ref (He.ga K "NoFar")) := He.glo_ok X G0 (c.fact 25 (f := .glo "NoFar") rfl)
  have g_BadPlace : mg "BadPlace" = some (.ref (He.ga K "BadPlace")) := He.glo_ok X G0 (c.fact 26 (f := .glo "BadPlace") rfl)
  have g_Nothing : mg "Nothing" = some (.ref (He.ga K "Nothing")) := He.glo_ok X G0 (c.fact 27 (f := .glo "Nothing") rfl)
  have g_Plan : mg "Plan" = some (.ref (He.ga K "Plan")) := He.glo_ok X G0 (c.fact 28 (f := .glo "Plan") rfl)
  have g_Looker : mg "Looker" = some (.ref (He.ga K "Looker")) := He.glo_ok X G0 (c.fact 44 (f := .glo "Looker") rfl)
  have G : Gm K mg := { ValueError := He.free_ok X G0 (c.fact 72 (f := .free "ValueError") rfl), all := He.free_ok X G0 (c.fact 73 (f := .free "all") rfl), bool := He.free_ok X G0 (c.fact 74 (f := .free "bool") rfl), dict := He.free_ok X G0 (c.fact 75 (f := .free "dict") rfl), enumerate := He.free_ok X G0 (c.fact 76 (f := .free "enumerate") rfl), int := He.free_ok X G0 (c.fact 77 (f := .free "int") rfl), isinstance := He.free_ok X G0 (c.fact 78 (f := .free "isinstance") rfl), len := He.free_ok X G0 (c.fact 79 (f := .free "len") rfl), list := He.free_ok X G0 (c.fact 80 (f := .free "list") rfl), max := He.free_ok X G0 (c.fact 81 (f := .free "max") rfl), min := He.free_ok X G0 (c.fact 82 (f := .free "min") rfl), range := He.free_ok X G0 (c.fact 83 (f := .free "range") rfl), set := He.free_ok X G0 (c.fact 84 (f := .free "set") rfl), sorted := He.free_ok X G0 (c.fact 85 (f := .free "sorted") rfl), sum := He.free_ok X G0 (c.fact 86 (f := .free "sum") rfl), tuple := He.free_ok X G0 (c.fact 87 (f := .free "tuple") rfl), zip := He.free_ok X G0 (c.fact 88 (f := .free "zip") rfl), c_MOST_LONG := He.int_ok X G0 (c.fact 89 (f := .int "MOST_LONG" 6) rfl), x_BadKind := exc_I g_BadKind (c.fact 54 (f := .exc "BadKind") rfl), x_BadWord := exc_I g_BadWord (c.fact 55 (f := .exc "BadWord") rfl), x_BadTest := exc_I g_BadTest (c.fact 56 (f := .exc "BadTest") rfl), x_BadRow := exc_I g_BadRow (c.fact 57 (f := .exc "BadRow") rfl), x_BadTable := exc_I g_BadTable (c.fact 58 (f := .exc "BadTable") rfl), x_BadWeb := exc_I g_BadWeb (c.fact 59 (f := .exc "BadWeb") rfl), x_NoFar := exc_I g_NoFar (c.fact 60 (f := .exc "NoFar") rfl), x_BadPlace := exc_I g_BadPlace (c.fact 61 (f := .exc "BadPlace") rfl), x_Nothing := exc_I g_Nothing (c.fact 62 (f := .exc "Nothing") rfl) }
  have hgx : ∀ c ∈ ns, mg c = some (.ref (He.ga K c)) := by
    intro c hc
    simp only [ns, List.mem_cons, List.not_mem_nil, or_false] at hc
    rcases hc with rfl | rfl | rfl | rfl | rfl | rfl | rfl | rfl | rfl
    · exact g_BadKind
    · exact g_BadWord
    · exact g_BadTest
    · exact g_BadRow
    · exact g_BadTable
    · exact g_BadWeb
    · exact g_NoFar
    · exact g_BadPlace
    · exact g_Nothing
  have WK := wordB_ok (mg := mg) cx hgx
  have hexm : ∀ c ∈ ns, ∀ C, mg c = some (.ref C) → PySem.W.exmOne K (.ref C) (.ref (He.ga K "LookError")) = some true := by
    intro c hc C hC
    have e := hgx c hc
    rw [hC] at e
    cases e
    simp only [ns, List.mem_cons, List.not_mem_nil, or_false] at hc
    rcases hc with rfl | rfl | rfl | rfl | rfl | rfl | rfl | rfl | rfl
    · exact He.exm_ok (c.fact 63 (f := .exm "BadKind" "LookError" true) rfl)
    · exact He.exm_ok (c.fact 64 (f := .exm "BadWord" "LookError" true) rfl)
    · exact He.exm_ok (c.fact 65 (f := .exm "BadTest" "LookError" true) rfl)
    · exact He.exm_ok (c.fact 66 (f := .exm "BadRow" "LookError" true) rfl)
    · exact He.exm_ok (c.fact 67 (f := .exm "BadTable" "LookError" true) rfl)
    · exact He.exm_ok (c.fact 68 (f := .exm "BadWeb" "LookError" true) rfl)
    · exact He.exm_ok (c.fact 69 (f := .exm "NoFar" "LookError" true) rfl)
    · exact He.exm_ok (c.fact 70 (f := .exm "BadPlace" "LookError" true) rfl)
    · exact He.exm_ok (c.fact 71 (f := .exm "Nothing" "LookError" true) rfl)
  have TD : Told P w K mg base (TB0 K) ns "LookError" "_law_told" "_law_word" "deed" "e" 0 := td G g_BadKind g_BadWord g_BadTest g_BadRow g_BadTable g_BadWeb g_NoFar g_BadPlace g_Nothing WK g_LookError hexm F_L_told g_L_told F_L_word g_L_word
  have LI_law : LamI K mg base (TB0 K) "law" := ⟨(He.cT K ("law", none)).2, TB (He.cT K ("law", none)) (by simp [tf]), by simp [TB0], fun p hp _ => by
      have e := List.mem_singleton.mp hp
      rw [e]⟩
  have PC : PlC K mg (He.ga K "Plan") := ⟨g_Plan, He.cls_ok (c.fact 29 (f := .cls "Plan") rfl), He.noat_ok (c.fact 30 (f := .noat "Plan" "letters") rfl), He.noat_ok (c.fact 31 (f := .noat "Plan" "long") rfl), He.noat_ok (c.fact 32 (f := .noat "Plan" "words") rfl), He.noat_ok (c.fact 33 (f := .noat "Plan" "counts") rfl), He.noat_ok (c.fact 34 (f := .noat "Plan" "depths") rfl)⟩
  have M_init := p_init (P := P) (w := w) (base := base) (T := TB0 K) G.dict PC (He.mkr_ok (c.fact 43 (f := .mkr "Plan") rfl)) F_Plan_init
  have M_with_letter := p_with_letter (P := P) (w := w) (base := base) (T := TB0 K) G rfl PC F_Plan_with_letter (He.meth_ok (c.fact 35 (f := .meth "Plan" "with_letter") rfl))
  have M_so_many := p_so_many (P := P) (w := w) (base := base) (T := TB0 K) G rfl PC M_with_letter F_Plan_so_many (He.meth_ok (c.fact 36 (f := .meth "Plan" "so_many") rfl))
  have M_all_many := p_all_many (P := P) (w := w) (base := base) (T := TB0 K) G rfl PC F_Plan_all_many (He.meth_ok (c.fact 37 (f := .meth "Plan" "all_many") rfl))
  have M_verdict := p_verdict (P := P) (w := w) (base := base) (T := TB0 K) G rfl PC M_so_many M_all_many F_Plan_verdict (He.meth_ok (c.fact 38 (f := .meth "Plan" "verdict") rfl))
  have M_depth := p_depth (P := P) (w := w) (base := base) (T := TB0 K) G rfl PC M_with_letter M_verdict F_Plan_depth_by (He.meth_ok (c.fact 39 (f := .meth "Plan" "depth_by") rfl)) F_Plan_depth (He.meth_ok (c.fact 40 (f := .meth "Plan" "depth") rfl))
  have M_depth_by := p_depth_by (P := P) (w := w) (base := base) (T := TB0 K) G rfl PC M_with_letter M_depth F_Plan_depth_by (He.meth_ok (c.fact 39 (f := .meth "Plan" "depth_by") rfl))
  have M_best := p_best (P := P) (w := w) (base := base) (T := TB0 K) G rfl PC M_verdict M_depth_by M_depth F_Plan_best (He.meth_ok (c.fact 41 (f := .meth "Plan" "best") rfl))
  have M_nothing := p_nothing (P := P) (w := w) (base := base) (T := TB0 K) G rfl PC F_Plan_nothing (He.meth_ok (c.fact 42 (f := .meth "Plan" "nothing") rfl))
  have OC_Looker : ObC K mg "Looker" (He.ga K "Looker") flds_Looker := ⟨g_Looker, He.cls_ok (c.fact 45 (f := .cls "Looker") rfl), fun f hf => by
    simp only [flds_Looker, List.mem_cons, List.not_mem_nil, or_false] at hf
    rcases hf with rfl | rfl | rfl | rfl
    · exact He.noat_ok (c.fact 46 (f := .noat "Looker" "plan") rfl)
    · exact He.noat_ok (c.fact 47 (f := .noat "Looker" "word") rfl)
    · exact He.noat_ok (c.fact 48 (f := .noat "Looker" "places") rfl)
    · exact He.noat_ok (c.fact 49 (f := .noat "Looker" "taken") rfl)⟩
  have O_Looker_lookW := k_Looker_lookW (P := P) (w := w) (base := base) (T := TB0 K) (CP := He.ga K "Plan") G OC_Looker F_Looker_look (He.meth_ok (c.fact 50 (f := .meth "Looker" "look") rfl))
  have O_Looker_lookX := k_Looker_lookX (P := P) (w := w) (base := base) (T := TB0 K) (CP := He.ga K "Plan") G OC_Looker F_Looker_look (He.meth_ok (c.fact 50 (f := .meth "Looker" "look") rfl))
  have O_Looker_lookedR := k_Looker_lookedR (P := P) (w := w) (base := base) (T := TB0 K) (CP := He.ga K "Plan") G OC_Looker F_Looker_looked (He.meth_ok (c.fact 51 (f := .meth "Looker" "looked") rfl))
  have O_Looker_redoX := k_Looker_redoX (P := P) (w := w) (base := base) (T := TB0 K) (CP := He.ga K "Plan") G OC_Looker F_Looker_redo (He.meth_ok (c.fact 52 (f := .meth "Looker" "redo") rfl))
  have K_L_cell := k_L_cell (P := P) (w := w) (base := base) (T := TB0 K) (CP := (He.ga K "Plan")) (CL_Looker := He.ga K "Looker") G F_L_cell g_L_cell
  have K_L_drawn := k_L_drawn (P := P) (w := w) (base := base) (T := TB0 K) (CP := (He.ga K "Plan")) (CL_Looker := He.ga K "Looker") G F_L_drawn g_L_drawn
  have K_L_words := k_L_words (P := P) (w := w) (base := base) (T := TB0 K) (CP := (He.ga K "Plan")) (CL_Looker := He.ga K "Looker") G F_L_words g_L_words
  have K_all_words := k_all_words (P := P) (w := w) (base := base) (T := TB0 K) (CP := (He.ga K "Plan")) (CL_Looker := He.ga K "Looker") G F_all_words g_all_words
  have K_choices := fun n => k_choices (P := P) (w := w) (base := base) (T := TB0 K) G F_choices g_choices n
  have K_is_word := k_is_word (P := P) (w := w) (base := base) (T := TB0 K) (CP := (He.ga K "Plan")) (CL_Looker := He.ga K "Looker") G F_is_word g_is_word
  have K_L_kind := k_L_kind (P := P) (w := w) (base := base) (T := TB0 K) (CP := (He.ga K "Plan")) (CL_Looker := He.ga K "Looker") G K_L_drawn K_L_words F_L_kind g_L_kind
  have K_need_kind := k_need_kind (P := P) (w := w) (base := base) (T := TB0 K) (CP := (He.ga K "Plan")) (CL_Looker := He.ga K "Looker") G K_is_word F_need_kind g_need_kind
  have K_free_places := k_free_places (P := P) (w := w) (base := base) (T := TB0 K) (CP := (He.ga K "Plan")) (CL_Looker := He.ga K "Looker") G K_need_kind F_free_places g_free_places
  have K_need_word := k_need_word (P := P) (w := w) (base := base) (T := TB0 K) (CP := (He.ga K "Plan")) (CL_Looker := He.ga K "Looker") G K_is_word K_need_kind F_need_word g_need_word
  have O_Looker_initN := k_Looker_initN (P := P) (w := w) (base := base) (T := TB0 K) (CP := He.ga K "Plan") G PC OC_Looker K_need_word M_init F_Looker_init (He.mkr_ok (c.fact 53 (f := .mkr "Looker") rfl))
  have O_Looker_initX := k_Looker_initX (P := P) (w := w) (base := base) (T := TB0 K) (CP := He.ga K "Plan") G OC_Looker K_need_word F_Looker_init (He.mkr_ok (c.fact 53 (f := .mkr "Looker") rfl))
  have K_grounds_of := k_grounds_of (P := P) (w := w) (base := base) (T := TB0 K) (CP := (He.ga K "Plan")) (CL_Looker := He.ga K "Looker") G PC (K_choices 8) M_verdict F_grounds_of g_grounds_of
  have K_grounds := k_grounds (P := P) (w := w) (base := base) (T := TB0 K) (CP := (He.ga K "Plan")) (CL_Looker := He.ga K "Looker") G PC K_need_word K_grounds_of M_init F_grounds g_grounds
  have K_most_grounds := k_most_grounds (P := P) (w := w) (base := base) (T := TB0 K) (CP := (He.ga K "Plan")) (CL_Looker := He.ga K "Looker") G PC K_need_kind K_all_words K_grounds_of M_init F_most_grounds g_most_grounds
  have K_depth := k_depth (P := P) (w := w) (base := base) (T := TB0 K) (CP := (He.ga K "Plan")) (CL_Looker := He.ga K "Looker") G PC K_need_kind M_init M_depth M_nothing F_depth g_depth
  have K_decide := k_decide (P := P) (w := w) (base := base) (T := TB0 K) (CP := (He.ga K "Plan")) (CL_Looker := He.ga K "Looker") G PC K_need_word M_init M_best M_nothing M_verdict M_with_letter F_decide g_decide
  have K_law := k_law (P := P) (w := w) (base := base) (T := TB0 K) (CP := (He.ga K "Plan")) (CL_Looker := He.ga K "Looker") G TD LI_law OC_Looker K_depth K_decide K_grounds K_most_grounds K_free_places K_L_cell K_L_drawn K_L_words K_L_kind O_Looker_initN O_Looker_initX O_Looker_lookW O_Looker_lookX O_Looker_lookedR O_Looker_redoX FL0
  exact K_law
end K91
open PySem PySem.W PySem.Calls PyProof.Rows
set_option maxRecDepth 100000 in
set_option maxHeartbeats 0 in
theorem PySem.Challenge.cw_fewlooks_k91_lookers_refused_holds : PySem.Challenge.rw_fewlooks_k91_lookers_refused.Holds := by
  w_on; o_law
  refine HandSHeadRun.head_any (r := OpenLaw.row PySem.Challenge.rw_fewlooks_k91_lookers_refused) (q := view (OpenLaw.row PySem.Challenge.rw_fewlooks_k91_lookers_refused).prog [36]) (H := K91.hk) (ob := K91.ob) (M := 4000) (loose := K91.loose) (d := HandSHeadRun.topDef (OpenLaw.row PySem.Challenge.rw_fewlooks_k91_lookers_refused).prog 36) (kwd := []) K91.ob_eq
    (by kernel_rfl) (fun s => by kernel_rfl) K91.run (by kernel_rfl) (by kernel_rfl) (by kernel_rfl) (by rfl) (by first | assumption | decide +kernel) (by decide +kernel) ⟨rfl, rfl, rfl, rfl, rfl, by decide +kernel⟩ ?hw ?hc
  case hw => w_witness2
  case hc =>
    refine LamX.walk_ofTsE (l := PySem.Challenge.rw_fewlooks_k91_lookers_refused) (n := 63) (k := 30) (x := "script") (CX := fun w => L2N.CX (PySem.Challenge.rw_fewlooks_k91_lookers_refused).prog w) rfl (by decide) (by kernel_rfl) ⟨rfl, by decide, by decide⟩ ?F (fun _ _ _ _ _ z => FL.cx_false z)
    intro w mg fa h Y G hmg0
    obtain ⟨K, KX, c⟩ := Y
    have hmg : mg ("law" : PySem.Str) = some (.ref fa) := by
      have e : (HandSHeadRun.topDef (OpenLaw.row PySem.Challenge.rw_fewlooks_k91_lookers_refused).prog 36).name = ("law" : PySem.Str) := by kernel_rfl
      rw [← e]
      exact hmg0
    obtain ⟨fdL, FL0⟩ := c.t.d.def_ 17 (d := K91.d_law) rfl
    have bnd := FL0.bindsA (ps := ["script"]) fun _ _ _ _ _ _ us hl => match us, hl with | [_], _ => rfl
    refine ⟨K, KX, fdL, K91.tf.map (He.cT K), FL.spOf K mg (K91.TB0 K) 1 K91.m_law, ?_, ?_, ?_, fun s u => bnd s [u] rfl, ?_, ?_⟩
    · intro p hp
      obtain ⟨q, hq, rfl⟩ := List.mem_map.mp hp
      exact c.empty q hq
    · intro p hp
      obtain ⟨q, hq, rfl⟩ := List.mem_map.mp hp
      exact c.out q hq
    · intro p hp
      obtain ⟨q, hq, rfl⟩ := List.mem_map.mp hp
      exact PySem.W.codeHd_of_K KX (c.hd q hq)
    · intro H a ns hl hb hT hS
      refine FL.law_sp (k := 0) (fun p hp => ?_) hS (K91.law_true ns hl)
      simp only [K91.TB0, List.mem_cons, List.not_mem_nil, or_false] at hp
      rcases hp with rfl
      · exact LamX.TabS.nil (hT (He.cT K ("law", none)) (by simp [K91.tf]))
    · intro base KB GB TB
      have ga0 := He.glo_ok KX G (c.t.d.fact 17 (f := .glo "law") rfl)
      have e := hmg.symm.trans ga0
      cases e
      exact K91.facts (P := (PySem.Challenge.rw_fewlooks_k91_lookers_refused).prog) (w := w) KX G c.t.d c.more (base := base) TB FL0
