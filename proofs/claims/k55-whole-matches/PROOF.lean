import PyProof.Rows.All
import Wide.All
import OpenK.AllK
import Wide.FinOn
import HandS.ForMost
import HandS.IsInst
import HandS.Property
import HandS.FStr
import HandS.Deep
import HandS.Zip
import HandS.TupMul
import HandS.Style
import HandS.Conv
import HandS.MakeKwOnly
import HandS.Walk
import HandS.ClsMeth
import PySem.Challenge.RW_lowturns_k55_whole_matches_judged
set_option Elab.async false
set_option linter.all false
set_option maxRecDepth 100000
set_option maxHeartbeats 4000000
namespace L2.K55
structure Mc where
  p : Nat
  rows : List (Int × List Nat)
  start : Nat
structure WF (m : Mc) : Prop where
  prime : m.p = 2 ∨ m.p = 3 ∨ m.p = 5 ∨ m.p = 7
  pos : 0 < m.rows.length
  small : m.rows.length ≤ 64
  turn : ∀ r ∈ m.rows, 0 ≤ r.1 ∧ r.1 < (m.p : Int)
  len : ∀ r ∈ m.rows, r.2.length = m.p
  goal : ∀ r ∈ m.rows, ∀ g ∈ r.2, g < m.rows.length
  start : m.start < m.rows.length
def bump (f : List Int) (gs : List Nat) (c : Int) : List Int := gs.foldl (fun f g => f.set g (f.getD g 0 + c)) f
def cAcc (m : Mc) (cs : List Int) : List Int := (m.rows.zip cs).foldl (fun f rc => bump f rc.1.2 rc.2) (List.replicate m.rows.length 0)
def cNext (m : Mc) (cs : List Int) : List Int := (cAcc m cs).map fun x => x % (m.p : Int)
def bumpL (p : Nat) (f : List Int) (gs : List Nat) (c : Int) : List Int := gs.foldl (fun f g => f.set g ((f.getD g 0 + c) % (p : Int))) f
def later (m : Mc) (cs : List Int) : List Int := (m.rows.zip cs).foldl (fun f rc => bumpL m.p f rc.1.2 rc.2) (List.replicate m.rows.length 0)
def cTot (m : Mc) (cs : List Int) : Int := ((m.rows.zip cs).map fun rc => rc.1.1 * rc.2).sum % (m.p : Int)
def cFirst (m : Mc) : List Int := (List.range m.rows.length).map fun k => if k = m.start then 1 else 0
def cIter (m : Mc) : Nat → List Int
  | 0 => cFirst m
  | k + 1 => cNext m (cIter m k)
def rowsOf (m : Mc) (n : Nat) : List (List Int) := (List.range n).map (cIter m)
theorem bump_length (gs : List Nat) (c : Int) : ∀ f : List Int, (bump f gs c).length = f.length := by
  induction gs with
  | nil => intro f; rfl
  | cons g gs ih => intro f; show (bump (f.set g _) gs c).length = _; rw [ih, List.length_set]
theorem bumpL_length (p : Nat) (gs : List Nat) (c : Int) : ∀ f : List Int, (bumpL p f gs c).length = f.length := by
  induction gs with
  | nil => intro f; rfl
  | cons g gs ih => intro f; show (bumpL p (f.set g _) gs c).length = _; rw [ih, List.length_set]
theorem getD_map_mod (p : Nat) (f : List Int) (g : Nat) : (f.map fun x => x % (p : Int)).getD g 0 = (f.getD g 0) % (p : Int) := by
  rw [List.getD_eq_getElem?_getD, List.getD_eq_getElem?_getD, List.getElem?_map]
  cases f[g]? with
  | none => simp
  | some x => rfl
theorem bumpL_mod (p : Nat) (gs : List Nat) (c : Int) : ∀ f : List Int, bumpL p (f.map fun x => x % (p : Int)) gs c = (bump f gs c).map fun x => x % (p : Int) := by
  induction gs with
  | nil => intro f; rfl
  | cons g gs ih =>
    intro f
    show bumpL p ((f.map fun x => x % (p : Int)).set g ((((f.map fun x => x % (p : Int)).getD g 0) + c) % (p : Int))) gs c = (bump (f.set g (f.getD g 0 + c)) gs c).map _
    rw [← ih, List.map_set, getD_map_mod, Int.emod_add_emod]
theorem later_eq (m : Mc) (cs : List Int) : later m cs = cNext m cs := by
  unfold later cNext cAcc
  have h : ∀ (l : List ((Int × List Nat) × Int)) (f : List Int), l.foldl (fun f rc => bumpL m.p f rc.1.2 rc.2) (f.map fun x => x % (m.p : Int)) = (l.foldl (fun f rc => bump f rc.1.2 rc.2) f).map fun x => x % (m.p : Int) := by
    intro l
    induction l with
    | nil => intro f; rfl
    | cons a l ih => intro f; rw [List.foldl_cons, List.foldl_cons, bumpL_mod, ih]
  have h0 : (List.replicate m.rows.length (0 : Int)).map (fun x => x % (m.p : Int)) = List.replicate m.rows.length 0 := by
    rw [List.map_replicate, Int.zero_emod]
  rw [← h, h0]
theorem cAcc_length (m : Mc) (cs : List Int) : (cAcc m cs).length = m.rows.length := by
  unfold cAcc
  have h : ∀ (l : List ((Int × List Nat) × Int)) (f : List Int), (l.foldl (fun f rc => bump f rc.1.2 rc.2) f).length = f.length := by
    intro l
    induction l with
    | nil => intro f; rfl
    | cons a l ih => intro f; rw [List.foldl_cons, ih, bump_length]
  rw [h, List.length_replicate]
theorem cNext_length (m : Mc) (cs : List Int) : (cNext m cs).length = m.rows.length := by
  unfold cNext
  rw [List.length_map, cAcc_length]
theorem cFirst_length (m : Mc) : (cFirst m).length = m.rows.length := by
  unfold cFirst
  rw [List.length_map, List.length_range]
theorem cIter_length (m : Mc) (k : Nat) : (cIter m k).length = m.rows.length := by
  cases k with
  | zero => exact cFirst_length m
  | succ k => exact cNext_length m _
theorem cIter_small (m : Mc) (h : WF m) (k : Nat) : ∀ x ∈ cIter m k, 0 ≤ x ∧ x < (m.p : Int) := by
  have hp : 2 ≤ m.p := by rcases h.prime with e | e | e | e <;> omega
  cases k with
  | zero =>
    intro x hx
    obtain ⟨k, _, rfl⟩ := List.mem_map.mp hx
    split <;> omega
  | succ k =>
    intro x hx
    obtain ⟨y, _, rfl⟩ := List.mem_map.mp hx
    exact ⟨Int.emod_nonneg _ (by omega), Int.emod_lt_of_pos _ (by omega)⟩
theorem rowsOf_length (m : Mc) (n : Nat) : (rowsOf m n).length = n := by
  unfold rowsOf
  rw [List.length_map, List.length_range]
theorem rowsOf_get (m : Mc) {n i : Nat} (h : i < n) : (rowsOf m n)[i]? = some (cIter m i) := by
  unfold rowsOf
  rw [List.getElem?_map, List.getElem?_range h]
  rfl
inductive Bk where
  | non
  | bl (b : Bool)
  | num (i : Int)
def within (bk : Bk) (n : Nat) : Bool := match bk with
  | .num i => decide (0 ≤ i) && decide (i < (n : Int))
  | _ => false
def atB (bk : Bk) (rs : List (List Int)) : List Int := match bk with
  | .num i => rs.getD i.toNat []
  | _ => []
def areC (m : Mc) : Option (List Int) → Bool
  | none => false
  | some ns => decide (ns.length = m.rows.length) && ns.all fun i => decide (0 ≤ i) && decide (i < (m.p : Int))
def cSteps (m : Mc) (rs : List (List Int)) : Bool := (rs.zip rs.tail).all fun ab => decide (cNext m ab.1 = ab.2)
def nums (os : List (Option (List Int))) : List (List Int) := os.filterMap id
def chainP (m : Mc) (os : List (Option (List Int))) : Bool :=
  !os.isEmpty && (os.all (areC m) && (decide ((nums os).headD [] = cFirst m) && cSteps m (nums os)))
def chainL (m : Mc) (os : List (Option (List Int))) : Bool :=
  !os.isEmpty && (os.all (areC m) && decide (nums os = rowsOf m os.length))
abbrev Prs := List (List Int × Option (List Int))
def fsts (ps : Prs) : List (Option (List Int)) := ps.map fun p => some p.1
def snds (ps : Prs) : List (Option (List Int)) := ps.map fun p => p.2
def lastR (rs : List (List Int)) : List Int := rs.getD (rs.length - 1) []
def holdsP (m n : Mc) (ps : Prs) (bk : Bk) : Bool :=
  chainP m (fsts ps) && (chainP n (snds ps) && (within bk ps.length && (decide (m.p = n.p) &&
    (decide (cNext m (lastR (nums (fsts ps))) = atB bk (nums (fsts ps))) && (decide (cNext n (lastR (nums (snds ps))) = atB bk (nums (snds ps))) &&
      (((nums (fsts ps)).map (cTot m)).zip ((nums (snds ps)).map (cTot n))).all fun xy => decide (xy.1 = xy.2) && !decide (xy.1 = 0))))))
def jSingle (m : Mc) (os : List (Option (List Int))) (bk : Bk) : Bool :=
  chainL m os && (within bk os.length && (decide (cNext m (lastR (nums os)) = atB bk (nums os)) && ((nums os).map (cTot m)).all fun x => !decide (x = 0)))
def holdsL (m n : Mc) (ps : Prs) (bk : Bk) : Bool :=
  jSingle m (fsts ps) bk && (jSingle n (snds ps) bk && decide ((nums (fsts ps)).map (cTot m) = (nums (snds ps)).map (cTot n)))
theorem all_some {m : Mc} : ∀ {os : List (Option (List Int))}, os.all (areC m) = true → os = (nums os).map some := by
  intro os
  induction os with
  | nil => intro _; rfl
  | cons o os ih =>
    intro h
    rw [List.all_cons, Bool.and_eq_true] at h
    cases o with
    | none => exact absurd h.1 (by simp [areC])
    | some r =>
      show some r :: os = some r :: (nums os).map some
      rw [← ih h.2]
theorem nums_length {m : Mc} {os : List (Option (List Int))} (h : os.all (areC m) = true) : (nums os).length = os.length := by
  have e := all_some h
  have := congrArg List.length e
  rw [List.length_map] at this
  exact this.symm
theorem cSteps_iff (m : Mc) (rs : List (List Int)) : cSteps m rs = true ↔ ∀ (i : Nat) a b, rs[i]? = some a → rs[i + 1]? = some b → cNext m a = b := by
  unfold cSteps
  rw [List.all_eq_true]
  constructor
  · intro h i a b ha hb
    have hz : (rs.zip rs.tail)[i]? = some (a, b) := by
      rw [List.getElem?_zip_eq_some]
      exact ⟨ha, by rw [List.getElem?_tail]; exact hb⟩
    have := h (a, b) (List.mem_of_getElem? hz)
    exact of_decide_eq_true this
  · rintro h ⟨a, b⟩ hm
    obtain ⟨i, hi⟩ := List.mem_iff_getElem?.mp hm
    rw [List.getElem?_zip_eq_some] at hi
    rw [List.getElem?_tail] at hi
    exact decide_eq_true (h i a b hi.1 hi.2)
theorem chain_rows (m : Mc) (rs : List (List Int)) (h0 : rs ≠ []) : (rs.headD [] = cFirst m ∧ cSteps m rs = true) ↔ rs = rowsOf m rs.length := by
  have hpos : 0 < rs.length := List.length_pos_iff.mpr h0
  constructor
  · rintro ⟨e0, hs⟩
    rw [cSteps_iff] at hs
    have key : ∀ i, i < rs.length → rs[i]? = some (cIter m i) := by
      intro i
      induction i with
      | zero =>
        intro hi
        cases rs with
        | nil => exact absurd rfl h0
        | cons r rs => show some r = some (cFirst m); rw [← e0]; rfl
      | succ i ih =>
        intro hi
        have h1 := ih (by omega)
        have h2 : rs[i + 1]? = some rs[i + 1] := List.getElem?_eq_getElem hi
        rw [h2, ← hs i _ _ h1 h2]
        rfl
    apply List.ext_getElem?
    intro i
    by_cases hi : i < rs.length
    · rw [key i hi, rowsOf_get m hi]
    · rw [List.getElem?_eq_none (by omega), List.getElem?_eq_none (by rw [rowsOf_length]; omega)]
  · intro e
    constructor
    · rw [e]
      have : (rowsOf m rs.length)[0]? = some (cFirst m) := rowsOf_get m hpos
      cases hr : rowsOf m rs.length with
      | nil => rw [hr] at this; cases this
      | cons a l => rw [hr] at this; exact Option.some.inj this
    · rw [cSteps_iff]
      intro i a b ha hb
      have hi : i + 1 < rs.length := by
        rcases Nat.lt_or_ge (i + 1) rs.length with h | h
        · exact h
        · rw [List.getElem?_eq_none h] at hb; cases hb
      rw [e, rowsOf_get m (by omega)] at ha
      rw [e, rowsOf_get m hi] at hb
      cases ha; cases hb; rfl
theorem chain_eq (m : Mc) (os : List (Option (List Int))) : chainP m os = chainL m os := by
  unfold chainP chainL
  cases he : os.isEmpty with
  | true => rfl
  | false =>
    cases ha : os.all (areC m) with
    | false => rfl
    | true =>
      have hl := nums_length ha
      have hne : nums os ≠ [] := by
        intro e
        rw [e] at hl
        have : os = [] := List.length_eq_zero_iff.mp hl.symm
        rw [this] at he
        cases he
      have key := chain_rows m (nums os) hne
      rw [hl] at key
      simp only [Bool.not_false, Bool.true_and]
      rw [Bool.eq_iff_iff, Bool.and_eq_true, decide_eq_true_iff, decide_eq_true_iff]
      exact key
theorem zip_all (xs ys : List Int) (hl : xs.length = ys.length) : ((xs.zip ys).all fun xy => decide (xy.1 = xy.2) && !decide (xy.1 = 0)) = (decide (xs = ys) && xs.all fun x => !decide (x = 0)) := by
  induction xs generalizing ys with
  | nil =>
    cases ys with
    | nil => rfl
    | cons y ys => cases hl
  | cons x xs ih =>
    cases ys with
    | nil => cases hl
    | cons y ys =>
      have hl' : xs.length = ys.length := by simpa using hl
      rw [List.zip_cons_cons, List.all_cons, List.all_cons, ih ys hl']
      by_cases h1 : x = y
      · subst h1
        by_cases h2 : x = 0
        · simp [h2]
        · by_cases h3 : xs = ys <;> simp [h2, h3]
      · simp [h1]
theorem holds_eq (m n : Mc) (hp : m.p = n.p) (ps : Prs) (bk : Bk) : holdsP m n ps bk = holdsL m n ps bk := by
  unfold holdsP holdsL jSingle
  rw [chain_eq, chain_eq]
  have l1 : (fsts ps).length = ps.length := List.length_map _
  have l2 : (snds ps).length = ps.length := List.length_map _
  cases h1 : chainL m (fsts ps) with
  | false => rfl
  | true =>
    cases h2 : chainL n (snds ps) with
    | false => simp
    | true =>
      unfold chainL at h1 h2
      simp only [Bool.and_eq_true] at h1 h2
      have e1 := nums_length h1.2.1
      have e2 := nums_length h2.2.1
      rw [zip_all _ _ (by rw [List.length_map, List.length_map, e1, e2, l1, l2]), l1, l2, decide_eq_true hp]
      by_cases hq : (nums (fsts ps)).map (cTot m) = (nums (snds ps)).map (cTot n)
      · rw [← hq]
        cases within bk ps.length <;> cases decide (cNext m (lastR (nums (fsts ps))) = atB bk (nums (fsts ps))) <;> cases decide (cNext n (lastR (nums (snds ps))) = atB bk (nums (snds ps))) <;>
          cases (((nums (fsts ps)).map (cTot m)).all fun x => !decide (x = 0)) <;> simp
      · rw [decide_eq_false hq]
        simp
theorem take_succ' {α : Type} {l : List α} {i : Nat} {x : α} (h : l[i]? = some x) : l.take (i + 1) = l.take i ++ [x] := by
  rw [List.take_add_one, h]
  rfl
theorem foldl_take {α β : Type} (f : β → α → β) (b : β) {l : List α} {i : Nat} {x : α} (h : l[i]? = some x) : (l.take (i + 1)).foldl f b = f ((l.take i).foldl f b) x := by
  rw [take_succ' h, List.foldl_append]
  rfl
theorem map_take_succ {α β : Type} (f : α → β) {l : List α} {i : Nat} {x : α} (h : l[i]? = some x) : (l.take (i + 1)).map f = (l.take i).map f ++ [f x] := by
  rw [take_succ' h, List.map_append]
  rfl
theorem nodup_bound : ∀ (N : Nat) (l : List Nat), l.Nodup → (∀ x ∈ l, x < N) → l.length ≤ N
  | 0, l, _, h => by
    cases l with
    | nil => exact Nat.le_refl _
    | cons x l => exact absurd (h x List.mem_cons_self) (Nat.not_lt_zero _)
  | N + 1, l, nd, h => by
    by_cases hm : N ∈ l
    · have := nodup_bound N (l.erase N) (nd.erase N) (fun x hx => by
        have h1 := h x (List.mem_of_mem_erase hx)
        have h2 : x ≠ N := fun e => by
          rw [e] at hx
          exact (List.Nodup.not_mem_erase nd) hx
        omega)
      rw [List.length_erase_of_mem hm] at this
      have hp : 0 < l.length := List.length_pos_of_mem hm
      omega
    · have := nodup_bound N l nd (fun x hx => by
        have h1 := h x hx
        have h2 : x ≠ N := fun e => hm (by rw [← e]; exact hx)
        omega)
      omega
theorem nodup_pairs (a b : Nat) (l : List (Nat × Nat)) (nd : l.Nodup) (h : ∀ q ∈ l, q.1 < a ∧ q.2 < b) : l.length ≤ a * b := by
  have h1 : (l.map fun q => q.1 * b + q.2).Nodup := by
    rw [List.Nodup, List.pairwise_map]
    refine List.Pairwise.imp_of_mem ?_ nd
    intro x y hx hy hne e
    have ⟨_, hx2⟩ := h x hx
    have ⟨_, hy2⟩ := h y hy
    apply hne
    have hb : 0 < b := by omega
    have e1 : (x.1 * b + x.2) / b = (y.1 * b + y.2) / b := by rw [e]
    rw [Nat.add_comm, Nat.add_mul_div_right _ _ hb, Nat.div_eq_of_lt hx2, Nat.add_comm (y.1 * b), Nat.add_mul_div_right _ _ hb, Nat.div_eq_of_lt hy2] at e1
    have e2 : x.1 = y.1 := by omega
    have e3 : x.2 = y.2 := by rw [e2] at e; omega
    exact Prod.ext e2 e3
  have := nodup_bound (a * b) _ h1 (fun z hz => by
    obtain ⟨q, hq, rfl⟩ := List.mem_map.mp hz
    have ⟨h1, h2⟩ := h q hq
    calc q.1 * b + q.2 < q.1 * b + b := by omega
      _ = (q.1 + 1) * b := by rw [Nat.succ_mul]
      _ ≤ a * b := Nat.mul_le_mul_right _ h1)
  rwa [List.length_map] at this
theorem perm_erase {α : Type} : ∀ {l : List α} {i : Nat} {x : α}, l[i]? = some x → (x :: l.eraseIdx i).Perm l
  | [], i, x, h => by simp at h
  | y :: l, 0, x, h => by
    have e : y = x := Option.some.inj h
    rw [e]
    exact List.Perm.refl _
  | y :: l, i + 1, x, h => by
    have ih := perm_erase (l := l) (i := i) (x := x) (by simpa using h)
    show (x :: y :: l.eraseIdx i).Perm (y :: l)
    exact (List.Perm.swap y x _).trans (ih.cons y)
theorem perm_pop {α : Type} (found left : List α) (i : Nat) (x : α) (h : left[i]? = some x) : ((found ++ [x]) ++ left.eraseIdx i).Perm (found ++ left) := by
  rw [List.append_assoc]
  exact List.Perm.append_left found (perm_erase h)
end L2.K55
namespace L2.K55
open PySem PySem.Spec PyProof.Rows
section
variable {X : Cx} {o e value : Expr} {f : Str} {pos pos' tpos : Pos} {ta tv : TE}
def gFld (K : PySem.W.Frag) (ta : TE) (f : Str) : TG := fun v σ H Q => ta σ H fun x H1 => ∃ a C dx fs, x = .ref a ∧ H1 a = some (.ins C dx fs) ∧ Cls K C ∧ NoAttr K C f ∧ fs.length < 1000 ∧ Q σ (upd H1 a (.ins C dx (putF f v fs)))
theorem pg_attr (ha : PE X o ta) : PG X (.Attribute o f pos) (gFld X.K ta f) := by
  refine ⟨fun pins s σ H v u Q I r h => ?_⟩
  rw [assign_Attribute]
  refine wpAny_bind (wpAny_holding (thn (ha.run pins s σ H _ I h) fun ov s1 ⟨x, H1, I1, rx, a, C, dx, fs, ex, ea, c, n, l, q⟩ => ?_))
  subst ex
  obtain rfl : ov = Value.ref a := rx
  refine wpAny_bind (wpAny_standAt (wpAny_bind (wpAny_holding (setattr_ok I1 ea c n l r fun s3 I3 => ?_))))
  exact wpAny_release ⟨σ, _, I3, q⟩
def rGetL (K : PySem.W.Frag) : V → V → Hp → VK → Prop := fun o i H Q => ∃ p xs k v, o = .ref p ∧ i = .int k ∧ SqL K H p xs ∧ 0 ≤ k ∧ xs[k.toNat]? = some v ∧ Q v H
theorem get_list : PGet X (rGetL X.K) := by
  intro pins s σ H o i ov iv Q I ro ri h
  obtain ⟨p, xs, k, v, rfl, rfl, hq, h0, he, q⟩ := h
  cases ro
  obtain ⟨t, rfl⟩ := ri
  obtain ⟨its, r, pl, hz⟩ := I.list hq
  obtain ⟨w, ew, rw'⟩ := r.get he
  have hl := r.length
  have hn := line63
  have hk : k.toNat < xs.length := (List.getElem?_eq_some_iff.mp he).1
  exact wpAny_getItem_list pl.isList h0 (by omega) (by simpa using ew) ⟨v, H, I, rw', q⟩
end
section
variable {X : Cx} {CX : CXT} {k : Nat} {C f : Addr} {fd : FuncData} {ps : List Str} {sp : Sp} {E : XK}
def rOwn (C : Addr) (sp : Sp) (E : XK) (ok : V → Prop) : List V → Hp → VK → Prop := fun xs H Q => ∃ a dx fs, xs = [.ref a] ∧ H a = some (.ins C dx fs) ∧ sp [.ref a] H (fun v H' => ok v ∧ Q v H') E
theorem run_in1 {pins : List (Addr × Obj)} {σ : St} {H : Hp} {s : Shared} {Q : VK} {us : List Value} {vs : List V} (F : FnOk X.prog X.w X.K X.mg X.base CX k f fd ps sp) (hr : Room k X.A.in1) (hb : Binds X.K fd ps []) (hx : Passes CX X E)
    (I : Inv X pins σ H s) (r : Vals vs us) (h : sp vs H Q E) : wpAny (model X.prog X.w) X.A.in1 (call (.ref f) us) (EP X pins σ Q) X.xe s := by
  have hl : (us ++ []).length = ps.length := by rw [List.append_nil, ← r.length]; exact F.len _ _ _ _ h
  have hbb := hb s us I.kIn hl
  rw [List.append_nil] at hbb
  refine wpAny_call (codeAny_mono (F.run X.A.in1 X.stack s H ⟨us, []⟩ us vs Q E hr I.env0.in1 hbb r h) fun r s' hq => ?_)
  cases r with
  | error e => exact hx pins σ H s e s' I hq
  | ok fl =>
    cases fl with
    | ret u => exact I.after hq
    | next => exact False.elim hq
    | brk => exact False.elim hq
    | cont => exact False.elim hq
theorem call_lenOwn (F : FnOk X.prog X.w X.K X.mg X.base CX k f fd ps sp) (hr : Room (k + 1) X.A) (hb : Binds X.K fd ps []) (hx : Passes CX X E) (hs : PySem.W.findIn X.K (.ref C) "__len__" = some (some (.ref f))) (hf : PySem.W.isFn X.K (.ref f) = true) :
    CallR X (.builtin "len") (rOwn C sp E fun v => ∃ n : Nat, v = .int n ∧ n < 2 ^ 63) := by
  intro pins s σ H xs us Q I r h
  obtain ⟨a, dx, fs, rfl, ha, q⟩ := h
  obtain ⟨u, rfl, ru⟩ := vals1 r
  cases (show u = Value.ref a from ru)
  obtain ⟨mA, J, _⟩ := ins_get I.hok ha
  obtain ⟨od, J, _⟩ := J.look
  obtain ⟨m, hF⟩ := I.fr
  refine PySem.W.len_K hF I.ok.mod.kin J hs hf (wpAny_mono (run_in1 (vs := [V.ref a]) F hr.in1 hb hx I (.cons rfl .nil) q) (fun v s' hv => ?_) fun _ _ x => x)
  obtain ⟨z, H', I', rz, ⟨n, rfl, hn⟩, q'⟩ := hv
  obtain ⟨t, rfl⟩ := rz
  exact ⟨⟨by omega, by omega⟩, .int n, H', I'.tok _, ⟨_, rfl⟩, q'⟩
theorem call_reprOwn (F : FnOk X.prog X.w X.K X.mg X.base CX k f fd ps sp) (hr : Room (k + 1) X.A) (hb : Binds X.K fd ps []) (hx : Passes CX X E) (hs : PySem.W.findIn X.K (.ref C) "__repr__" = some (some (.ref f))) (hf : PySem.W.isFn X.K (.ref f) = true) :
    CallR X (.builtin "repr") (rOwn C sp E fun v => ∃ x : Str, v = .str x) := by
  intro pins s σ H xs us Q I r h
  obtain ⟨a, dx, fs, rfl, ha, q⟩ := h
  obtain ⟨u, rfl, ru⟩ := vals1 r
  cases (show u = Value.ref a from ru)
  obtain ⟨mA, J, _⟩ := ins_get I.hok ha
  obtain ⟨od, J, _⟩ := J.look
  obtain ⟨m, hF⟩ := I.fr
  refine PySem.W.repr_K hr.in1.units0 hF I.ok.mod.kin J hs hf (wpAny_mono (run_in1 (vs := [V.ref a]) F hr.in1 hb hx I (.cons rfl .nil) q) (fun v s' hv => ?_) fun _ _ x => x)
  obtain ⟨z, H', I', rz, ⟨x, rfl⟩, q'⟩ := hv
  obtain ⟨t, rfl⟩ := rz
  exact ⟨.str x, H', I', ⟨_, rfl⟩, q'⟩
end
section
variable {prog : Program} {w : World} {A : Around} {E : Value → Shared → Prop} {s : Shared} {K : PySem.W.Frag} {x y C f : Addr} {ox oy : Obj} {od od' : Option Obj}
theorem ifBound_B {M : Model} {name : Str} {id : String} {args : List Value} {Q : Option Value → Shared → Prop} (X : K.In s.heap) (I : PySem.W.InstAt s.heap x ox C od) (hs : PySem.W.findIn K (.ref C) name = some (some (.builtin id)))
    (hb : ∀ self, bindSpecial (.builtin id) self = pure (.builtin id, [self])) (h : wpAny M A (call (.builtin id) (.ref x :: args)) (fun v => Q (some v)) E s) : wpAny M A (callSpecialIfBound? (.ref x) name args) Q E s := by
  simp only [callSpecialIfBound?, bindSpecialIfBound?]
  refine wpAny_holding (wpAny_bind (wpAny_bind (wpAny_bind (I.type.here ((PySem.W.looks_findIn X hs).here ?_)))))
  simp only [hb]
  refine wpAny_bind (wpAny_askSetting (wpAny_ite ?_))
  have fin : wpAny M A (call (.builtin id) ([.ref x] ++ args) >>= fun v => pure (some v)) Q E s := wpAny_bind (wpAny_mono h (fun v s' h' => wpAny_pure h') fun _ _ h' => h')
  split
  · exact wpAny_bind (wpAny_pure (wpAny_pure fin))
  · exact wpAny_tryCatch (wpAny_bind (wpAny_pure (wpAny_pure fin)))
theorem objNe_K {Q : Fin → Shared → Prop} (X : K.In s.heap) (I : PySem.W.InstAt s.heap x ox C od) (he : PySem.W.findIn K (.ref C) "__eq__" = some (some (.ref f))) (hf : PySem.W.isFn K (.ref f) = true) (hu : A.units < cLine)
    (hcall : wpAny (model prog w) A (call (.ref f) [.ref x, .ref y]) (fun v s' => ∃ b, v = .bool b ∧ Q (.done (.ret (.bool (!b)))) s') E s) :
    wpAny (model prog w) A (Builtin.«object.__ne__» ⟨[.ref x, .ref y], []⟩) Q E s := by
  unfold Builtin.«object.__ne__»
  repeat (first
    | with_reducible refine wpAny_cRoomFor hu ?_
    | (refine wpAny_bind (m := callSpecialIfBound? (.ref x) (Str.ofString "__eq__") [.ref y])
        (PySem.W.ifBound_K X I he hf (wpAny_mono hcall (fun r s' hr => by
          obtain ⟨b, rfl, hq⟩ := hr
          repeat (first | exact hq | exact wpAny_pure hq | exact wpAny_truthy_bool hq | (refine wpAny_bind (m := truthy (.bool _)) (wpAny_truthy_bool ?_)) | wp_step)) fun _ _ e => e)))
    | wp_step)
theorem ne_K {Q : Value → Shared → Prop} (X : K.In s.heap) (I : PySem.W.InstAt s.heap x ox C od) (I' : PySem.W.InstAt s.heap y oy C od') (hn : PySem.W.findIn K (.ref C) "__ne__" = some (some (.builtin "object.__ne__")))
    (he : PySem.W.findIn K (.ref C) "__eq__" = some (some (.ref f))) (hf : PySem.W.isFn K (.ref f) = true) (hm : PySem.W.mroIn K C (.type "object") = some true) (hu : A.units + 1 < cLine)
    (hcall : wpAny (model prog w) A.in1 (call (.ref f) [.ref x, .ref y]) (fun v s' => ∃ b, v = .bool b ∧ Q (.bool (!b)) s') E s) :
    wpAny (model prog w) A (compareOp .NotEq (.ref x) (.ref y)) Q E s := by
  unfold compareOp
  show wpAny (model prog w) A (richCompare .NotEq (.ref x) (.ref y)) Q E s
  unfold richCompare
  simp only [oneThing_ref]
  refine wpAny_holding ?_
  refine wpAny_bind (wpAny_cRoomFor (Nat.lt_of_succ_lt hu) ?_)
  rw [cmpInfo_NotEq]
  dsimp only
  refine wpAny_bind (I.type.here ?_)
  refine wpAny_bind (I'.type.here ?_)
  rw [show (Value.ref C != Value.ref C) = false from by simp]
  simp only [Bool.false_eq_true, if_false]
  refine wpAny_bind (wpAny_pure ?_)
  simp only [Bool.false_eq_true, if_false]
  refine wpAny_bind (m := tryCompare (.ref x) "__ne__" (.ref y)) ?_
  simp only [tryCompare]
  refine wpAny_bind (ifBound_B X I hn (fun self => PySem.F.cmp_object.ne.bind self) (wpAny_call (codeAny_call_builtin PySem.F.cmp_object.ne.plain PySem.F.cmpEntry_ne
    (PySem.W.check_slot PySem.F.cmpKind_ne PySem.F.cmpSplit_ne (I.type.andThen (PySem.W.looks_mroIn X hm)) (PySem.F.cmpArgs_ne _ _)
      (objNe_K (A := A.in1) X I he hf hu (wpAny_mono hcall (fun v s' hv => ?_) fun _ _ e => e))))))
  obtain ⟨b, rfl, hq⟩ := hv
  exact ⟨b, rfl, by first | exact wpAny_pure hq | exact wpAny_pure (wpAny_pure hq) | exact hq⟩
end
section
variable {X : Cx} {CX : CXT} {k : Nat} {C f : Addr} {fd : FuncData} {ps : List Str} {sp : Sp} {E : XK}
def rNeOwn (C : Addr) (sp : Sp) (E : XK) : R2 := fun x y H Q => ∃ a b dx dy fs gs, x = .ref a ∧ y = .ref b ∧ H a = some (.ins C dx fs) ∧ H b = some (.ins C dy gs) ∧ sp [.ref a, .ref b] H (fun v H' => ∃ c, v = .bl c ∧ Q (.bl (!c)) H') E
theorem op_neOwn (F : FnOk X.prog X.w X.K X.mg X.base CX k f fd ps sp) (hr : Room (k + 1) X.A) (hb : Binds X.K fd ps []) (hx : Passes CX X E) (hn : PySem.W.findIn X.K (.ref C) "__ne__" = some (some (.builtin "object.__ne__")))
    (hs : PySem.W.findIn X.K (.ref C) "__eq__" = some (some (.ref f))) (hf : PySem.W.isFn X.K (.ref f) = true) (hm : PySem.W.mroIn X.K C (.type "object") = some true) : OpR X (compareOp .NotEq) (rNeOwn C sp E) := by
  intro pins s σ H x y v u Q I rx ry h
  obtain ⟨a, b, dx, dy, fs, gs, rfl, rfl, ha, hb', q⟩ := h
  cases (show v = Value.ref a from rx)
  cases (show u = Value.ref b from ry)
  obtain ⟨mA, J, _⟩ := ins_get I.hok ha
  obtain ⟨mB, J', _⟩ := ins_get I.hok hb'
  obtain ⟨od, J, _⟩ := J.look
  obtain ⟨od', J', _⟩ := J'.look
  refine ne_K I.kIn J J' hn hs hf hm (Nat.lt_of_le_of_lt (Nat.add_le_add_left (by decide : 1 ≤ 64) _) hr.units) (wpAny_mono (run_in1 (vs := [V.ref a, V.ref b]) F hr.in1 hb hx I (.cons rfl (.cons rfl .nil)) q) (fun v s' hv => ?_) fun _ _ x => x)
  obtain ⟨z, H', I', rz, ⟨c, rfl, q'⟩⟩ := hv
  exact ⟨c, rz, .bl (!c), H', I', rfl, q'⟩
end
theorem tuple_mul1 (l : Addr) (items : Array Value) (n : Nat) (dd : Option Addr) (sl : Array (Option Value)) (u : Tok) :
    Meets (Builtin.«tuple.__mul__» ⟨[.ref l, .int 1 u], []⟩) (fun _ R s => s.heap.get? l = some { cls := .type "tuple", dict := dd, data := .seq items n, slots := sl } ∧ R (.ok (.ret (Value.ref l))) s) :=
  .of_wp fun prog w A R s h => by
    obtain ⟨hp, g, d, tk, os⟩ := s
    obtain ⟨hl, h⟩ := h
    have f1 := AutoSeq1.idx_int
    have c0 : (decide ((1 : Int) < -(2 ^ 63)) || decide ((1 : Int) ≥ 2 ^ 63)) = false := by decide
    have c1 : (items.isEmpty || ((1 : Int) == 1)) = true := by simp
    wp_walk using wpAny_loadPart' hl
    exact ⟨_, rfl, h⟩
section
variable {X : Cx}
def rRepT1 (K : PySem.W.Frag) : R2 := fun x y H Q => ∃ l xs, x = .ref l ∧ y = .int 1 ∧ SqT K H l xs ∧ Q (.ref l) H
theorem op_repT1 : OpR X (binaryOp .Mult) (rRepT1 X.K) := by
  intro pins s σ H x y v u Q I rx ry h
  obtain ⟨l, xs, rfl, rfl, hT, q⟩ := h
  cases rx
  obtain ⟨t, rfl⟩ := ry
  obtain ⟨its, r, ⟨⟨cls, dd, data, sl⟩, ho, hc, n, hd⟩, hs⟩ := I.tuple hT
  simp only at hc hd
  subst hc hd
  refine wpAny_binaryOp_repeat_ref (T := "tuple") (U := "int") (by decide) ⟨_, ho, rfl⟩ (fun s' => typeIs_int s' 1 t) noFill_tuple_mul F.fills_int_mul F.slot_int_rmul repeat_tuple F.slot_int_index.lookup
    (call_meets F.slot_int_rmul (typeIs_int s 1 t) F.entry_int_rmul (F.args_int_rmul_2 _ _) (int_rmul_tuple 1 t l its.toArray n dd sl)
      ⟨ho, rfl, ⟨_, ho, rfl⟩, call_meets F.slot_tuple_mul ⟨_, ho, rfl⟩ F.entry_tuple_mul (F.args_tuple_mul_2 _ _) (tuple_mul1 l its.toArray n dd sl t) ⟨ho, ?_⟩⟩)
  exact ⟨.ref l, H, I, rfl, q⟩
def rRepA (K : PySem.W.Frag) : R2 := fun x y H Q => rRepT K x y H Q ∨ rRepT1 K x y H Q
theorem op_repA : OpR X (binaryOp .Mult) (rRepA X.K) := op_repT.or op_repT1
theorem repA_ones {K : PySem.W.Frag} {H : Hp} {l : Addr} {n : Nat} {v : V} {Q : VK} (hT : H l = some (.tup [v])) (h1 : 1 ≤ n) (h2 : n ≤ 1000) (q : ∀ p H', Same H H' → H' p = some (.tup (List.replicate n v)) → Q (.ref p) H') : rRepA K (.ref l) (.int n) H Q := by
  by_cases e : n = 1
  · subst e
    exact .inr ⟨l, [v], rfl, rfl, SqT.of hT, q l H (fun _ _ h => h) hT⟩
  · refine .inl ⟨l, n, [v], rfl, rfl, SqT.of hT, by simp, by omega, by omega, by show 1 ≤ 1000; decide, fun p hp => q p _ (fun a o h => by rw [upd_ne (ne_of_none h hp)]; exact h) ?_⟩
    rw [upd_same]
    have : ∀ k : Nat, (List.replicate k [v]).flatten = List.replicate k v := by
      intro k
      induction k with
      | zero => rfl
      | succ k ih => rw [List.replicate_succ, List.flatten_cons, ih, List.replicate_succ]; rfl
    rw [this]
    simp
end
end L2.K55
namespace L2.K55
open PySem PySem.Spec PyProof.Rows
section
variable {K : PySem.W.Frag} {H H' H1 H2 : Hp} {a b D : Addr} {xs ys : List V}
theorem _root_.L2.Same.tup (e : Same H H') (h : SqT K H a xs) : SqT K H' a xs := by
  rcases h with (h | ⟨o, h⟩) | h
  · exact .inl (.inl (e _ _ h))
  · exact .inl (.inr ⟨o, e _ _ h⟩)
  · exact .inr h
def SS (H H' : Hp) : Prop := ∀ a o, (∀ C dx fs, o ≠ HO.ins C dx fs) → H a = some o → H' a = some o
theorem _root_.L2.Same.ss (e : Same H H') : SS H H' := fun a o _ h => e a o h
theorem SS.seq (e : SS H H') (h : SqL K H a xs) : SqL K H' a xs := by
  rcases h with (h | ⟨o, h⟩) | h
  · exact .inl (.inl (e _ _ (fun _ _ _ q => by cases q) h))
  · exact .inl (.inr ⟨o, e _ _ (fun _ _ _ q => by cases q) h⟩)
  · exact .inr h
theorem SS.tup (e : SS H H') (h : SqT K H a xs) : SqT K H' a xs := by
  rcases h with (h | ⟨o, h⟩) | h
  · exact .inl (.inl (e _ _ (fun _ _ _ q => by cases q) h))
  · exact .inl (.inr ⟨o, e _ _ (fun _ _ _ q => by cases q) h⟩)
  · exact .inr h
mutual
theorem Dp.ss (e : SS H H') : ∀ (d : PyData) (v : V), Dp K H v d → Dp K H' v d
  | .none, _, h => by cases h; exact .non
  | .bool b, _, h => by cases h; exact .bl b
  | .int i, _, h => by cases h; exact .int i
  | .str x, _, h => by cases h; exact .str x
  | .list ds, _, h => by
    cases h with
    | lst hs ha => exact .lst (e.seq hs) (DpAll.ss e ds _ ha)
  | .tuple ds, _, h => by
    cases h with
    | tup hs ha => exact .tup (e.tup hs) (DpAll.ss e ds _ ha)
  | .dict _, _, h => by cases h
theorem DpAll.ss (e : SS H H') : ∀ (ds : List PyData) (vs : List V), DpAll K H vs ds → DpAll K H' vs ds
  | [], _, h => by cases h; exact .nil
  | d :: ds, _, h => by
    cases h with
    | cons h1 h2 => exact .cons (Dp.ss e d _ h1) (DpAll.ss e ds _ h2)
end
theorem sms {d : PyData} {v : V} (e : SS H H') (h : Dp K H v d) : Dp K H' v d := Dp.ss e d v h
theorem sm {d : PyData} {v : V} (e : Same H H') (h : Dp K H v d) : Dp K H' v d := Dp.ss e.ss d v h
theorem sma {ds : List PyData} {vs : List V} (e : Same H H') (h : DpAll K H vs ds) : DpAll K H' vs ds := DpAll.ss e.ss ds vs h
def SB (b : Addr) (H H' : Hp) : Prop := ∀ a o, a ≠ b → H a = some o → H' a = some o
theorem SB.refl (b : Addr) (H : Hp) : SB b H H := fun _ _ _ h => h
theorem SB.trans (e1 : SB b H H1) (e2 : SB b H1 H2) : SB b H H2 := fun a o n h => e2 a o n (e1 a o n h)
theorem _root_.L2.Same.sb (b : Addr) (e : Same H H') : SB b H H' := fun a o _ h => e a o h
theorem SB.upd {o : HO} (e : SB b H H1) : SB b H (upd H1 b o) := fun a u n h => by rw [upd_ne n]; exact e a u n h
theorem SB.new {p : Addr} {o : HO} (e : SB b H H1) (h : H1 p = none) : SB b H (L2.upd H1 p o) := fun a u n q => by rw [upd_ne (ne_of_none (e a u n q) h)]; exact e a u n q
theorem _root_.L2.Same.new {p : Addr} {o : HO} (e : Same H H1) (h : H1 p = none) : Same H (L2.upd H1 p o) := fun a u q => by rw [upd_ne (ne_of_none (e a u q) h)]; exact e a u q
theorem _root_.L2.Same.mut {p : Addr} {o : HO} (e : Same H H1) (h : H p = none) : Same H (L2.upd H1 p o) := fun a u q => by rw [upd_ne (ne_of_none q h)]; exact e a u q
def hide (D : Addr) (H : Hp) : Hp := fun a => if a = D then none else H a
theorem hide_at : hide D H D = none := if_pos rfl
theorem hide_ne (h : a ≠ D) : hide D H a = H a := if_neg h
theorem hide_same : Same (hide D H) H := fun a o h => by
  unfold hide at h
  split at h
  · cases h
  · exact h
theorem _root_.L2.Same.hide (e : Same H H') (h : H D = none) : Same H (K55.hide D H') := fun a o q => by
  rw [hide_ne (ne_of_none q h)]
  exact e a o q
theorem hide_upd {o : HO} : Same (hide D H) (upd H D o) := fun a u h => by
  unfold hide at h
  split at h
  · cases h
  · rename_i n; rw [upd_ne n]; exact h
theorem hide_hide (e : Same H H') : Same (hide D H) (hide D H') := fun a u h => by
  unfold hide at h ⊢
  split at h
  · cases h
  · rename_i n; rw [if_neg n]; exact e a u h
def okL : List PyData → Bool
  | [.list _, .int _, .int _, .int _, .int _] => false
  | [.tuple _, .int _, .int _, .int _, .int _] => false
  | _ => true
mutual
def okD : PyData → Bool
  | .list ds => okL ds && okA ds
  | .tuple ds => okA ds
  | _ => true
def okA : List PyData → Bool
  | [] => true
  | d :: ds => okD d && okA ds
end
def BagAt (H : Hp) (b : Addr) : Prop := ∃ (c : Addr) (cells : List Int) (i big mix dr : Int), H b = some (.lst [.ref c, .int i, .int big, .int mix, .int dr]) ∧ H c = some (.lst (cells.map V.int)) ∧ 0 ≤ i ∧ 0 ≤ big ∧ 0 ≤ mix ∧ mix < 2147483629
theorem bag_off {ds : List PyData} (hb : BagAt H b) (h : SqL K H a xs) (hd : DpAll K H xs ds) (ok : okL ds = true) (e : SB b H H') : SqL K H' a xs := by
  obtain ⟨c, cells, i, big, mix, dr, h1, h2, _⟩ := hb
  have key : ∀ o, H a = some o → (o = .lst xs ∨ ∃ u, o = .frz u (.lst xs)) → a ≠ b := by
    intro o ho hx ab
    subst ab
    rw [h1] at ho
    cases Option.some.inj ho
    rcases hx with hx | ⟨u, hx⟩
    · cases hx
      cases hd with
      | cons d1 r1 => cases r1 with
        | cons d2 r2 => cases r2 with
          | cons d3 r3 => cases r3 with
            | cons d4 r4 => cases r4 with
              | cons d5 r5 =>
                cases r5
                cases d2
                cases d3
                cases d4
                cases d5
                cases d1 <;> simp [okL] at ok
    · cases hx
  rcases h with (h | ⟨o, h⟩) | h
  · exact .inl (.inl (e _ _ (key _ h (.inl rfl)) h))
  · exact .inl (.inr ⟨o, e _ _ (key _ h (.inr ⟨o, rfl⟩)) h⟩)
  · exact .inr h
theorem bag_tup (hb : BagAt H b) (h : SqT K H a xs) (e : SB b H H') : SqT K H' a xs := by
  obtain ⟨c, cells, i, big, mix, dr, h1, _⟩ := hb
  have key : ∀ o, H a = some o → (∀ ys, o ≠ .lst ys) → a ≠ b := by
    intro o ho hx ab
    subst ab
    rw [h1] at ho
    exact hx _ (Option.some.inj ho).symm
  rcases h with (h | ⟨o, h⟩) | h
  · exact .inl (.inl (e _ _ (key _ h (fun ys q => by cases q)) h))
  · exact .inl (.inr ⟨o, e _ _ (key _ h (fun ys q => by cases q)) h⟩)
  · exact .inr h
theorem bag_ins {C dx x : Addr} {fs : List (Str × V)} (hb : BagAt H b) (h : H x = some (.ins C dx fs)) (e : SB b H H') : H' x = some (.ins C dx fs) := by
  obtain ⟨c, cells, i, big, mix, dr, h1, _⟩ := hb
  refine e _ _ (fun ab => ?_) h
  subst ab
  rw [h1] at h
  cases h
mutual
theorem Dp.bag (hb : BagAt H b) (e : SB b H H') : ∀ (d : PyData) (v : V), okD d = true → Dp K H v d → Dp K H' v d
  | .none, _, _, h => by cases h; exact .non
  | .bool b, _, _, h => by cases h; exact .bl b
  | .int i, _, _, h => by cases h; exact .int i
  | .str x, _, _, h => by cases h; exact .str x
  | .list ds, _, ok, h => by
    cases h with
    | lst hs ha =>
      have ok' : okL ds = true ∧ okA ds = true := by simpa only [okD, Bool.and_eq_true] using ok
      exact .lst (bag_off hb hs ha ok'.1 e) (DpAll.bag hb e ds _ ok'.2 ha)
  | .tuple ds, _, ok, h => by
    cases h with
    | tup hs ha =>
      have ok' : okA ds = true := by simpa only [okD] using ok
      exact .tup (bag_tup hb hs e) (DpAll.bag hb e ds _ ok' ha)
  | .dict _, _, _, h => by cases h
theorem DpAll.bag (hb : BagAt H b) (e : SB b H H') : ∀ (ds : List PyData) (vs : List V), okA ds = true → DpAll K H vs ds → DpAll K H' vs ds
  | [], _, _, h => by cases h; exact .nil
  | d :: ds, _, ok, h => by
    cases h with
    | cons h1 h2 =>
      have ok' : okD d = true ∧ okA ds = true := by simpa only [okA, Bool.and_eq_true] using ok
      exact .cons (Dp.bag hb e d _ ok'.1 h1) (DpAll.bag hb e ds _ ok'.2 h2)
end
theorem bagD {d : PyData} {v : V} (hb : BagAt H b) (e : SB b H H') (ok : okD d = true) (h : Dp K H v d) : Dp K H' v d := Dp.bag hb e d v ok h
theorem BagAt.same (hb : BagAt H b) (e : Same H H') : BagAt H' b := by
  obtain ⟨c, cells, i, big, mix, dr, h1, h2, h3⟩ := hb
  exact ⟨c, cells, i, big, mix, dr, e _ _ h1, e _ _ h2, h3⟩
end
section
variable {K : PySem.W.Frag} {H H' : Hp} {v : V} {xs ys : List V} {ds es : List PyData}
theorem dp_int {i : Int} (h : Dp K H v (.int i)) : v = .int i := by cases h; rfl
theorem dp_list (h : Dp K H v (.list ds)) : ∃ a xs, v = .ref a ∧ SqL K H a xs ∧ DpAll K H xs ds := by
  cases h with
  | lst h1 h2 => exact ⟨_, _, rfl, h1, h2⟩
theorem dp_tuple (h : Dp K H v (.tuple ds)) : ∃ a xs, v = .ref a ∧ SqT K H a xs ∧ DpAll K H xs ds := by
  cases h with
  | tup h1 h2 => exact ⟨_, _, rfl, h1, h2⟩
theorem dpa_len : ∀ {xs : List V} {ds : List PyData}, DpAll K H xs ds → xs.length = ds.length
  | _, _, .nil => rfl
  | _, _, .cons _ t => congrArg Nat.succ (dpa_len t)
theorem dpa_get : ∀ {xs : List V} {ds : List PyData} {i : Nat} {d : PyData}, DpAll K H xs ds → ds[i]? = some d → ∃ v, xs[i]? = some v ∧ Dp K H v d
  | _, _, i, _, .nil, h => by simp at h
  | _, _, 0, _, .cons h1 t, h => by
    simp at h
    subst h
    exact ⟨_, rfl, h1⟩
  | _, _, i + 1, d, .cons h1 t, h => by
    obtain ⟨v, e1, e2⟩ := dpa_get (i := i) (d := d) t (by simpa using h)
    exact ⟨v, by simpa using e1, e2⟩
theorem dpa_at {i : Nat} (h : DpAll K H xs ds) (hx : xs[i]? = some v) : ∃ d, ds[i]? = some d ∧ Dp K H v d := by
  have hl := dpa_len h
  have hi : i < ds.length := by rw [← hl]; exact (List.getElem?_eq_some_iff.mp hx).1
  obtain ⟨u, e1, e2⟩ := dpa_get h (List.getElem?_eq_getElem hi)
  rw [e1] at hx
  cases hx
  exact ⟨_, List.getElem?_eq_getElem hi, e2⟩
theorem dpa_of : ∀ {xs : List V} {ds : List PyData}, xs.length = ds.length → (∀ (i : Nat) v d, xs[i]? = some v → ds[i]? = some d → Dp K H v d) → DpAll K H xs ds
  | [], [], _, _ => .nil
  | [], _ :: _, h, _ => by cases h
  | _ :: _, [], h, _ => by cases h
  | x :: xs, d :: ds, h, f => .cons (f 0 x d rfl rfl) (dpa_of (by simpa using h) fun i v d' h1 h2 => f (i + 1) v d' (by simpa using h1) (by simpa using h2))
theorem dpa_app : ∀ {xs : List V} {ds : List PyData} {ys : List V} {es : List PyData}, DpAll K H xs ds → DpAll K H ys es → DpAll K H (xs ++ ys) (ds ++ es)
  | _, _, _, _, .nil, h => h
  | _, _, _, _, .cons h1 t, h => .cons h1 (dpa_app t h)
theorem dpa_take (n : Nat) : ∀ {xs : List V} {ds : List PyData}, DpAll K H xs ds → DpAll K H (xs.take n) (ds.take n) := by
  intro xs ds h
  refine dpa_of (by simp [dpa_len h]) fun i v d h1 h2 => ?_
  rw [List.getElem?_take] at h1 h2
  split at h1
  · rename_i hi
    rw [if_pos hi] at h2
    obtain ⟨u, e1, e2⟩ := dpa_get h h2
    rw [e1] at h1; cases h1; exact e2
  · cases h1
theorem dpa_drop (n : Nat) {xs : List V} {ds : List PyData} (h : DpAll K H xs ds) : DpAll K H (xs.drop n) (ds.drop n) := by
  refine dpa_of (by simp [dpa_len h]) fun i v d h1 h2 => ?_
  rw [List.getElem?_drop] at h1 h2
  obtain ⟨u, e1, e2⟩ := dpa_get h h2
  rw [e1] at h1; cases h1; exact e2
theorem dpa_rev {xs : List V} {ds : List PyData} (h : DpAll K H xs ds) : DpAll K H xs.reverse ds.reverse := by
  have hl := dpa_len h
  refine dpa_of (by simp [hl]) fun i v d h1 h2 => ?_
  have hi : i < xs.length := by
    have := (List.getElem?_eq_some_iff.mp h1).1
    simpa using this
  rw [List.getElem?_reverse hi] at h1
  rw [List.getElem?_reverse (by omega)] at h2
  rw [hl] at h1
  obtain ⟨u, e1, e2⟩ := dpa_get h h2
  rw [e1] at h1; cases h1; exact e2
theorem dpa_ints : ∀ {ns : List Int} {xs : List V}, DpAll K H xs (ns.map PyData.int) → xs = ns.map V.int
  | [], _, .nil => rfl
  | n :: ns, _, .cons h t => by
    rw [dp_int h, dpa_ints t]
    rfl
theorem ints_dpa : ∀ {ns : List Int}, DpAll K H (ns.map V.int) (ns.map PyData.int)
  | [] => .nil
  | n :: ns => .cons (.int n) ints_dpa
abbrev dI (ns : List Int) : PyData := .list (ns.map PyData.int)
theorem dI_un {ns : List Int} (h : Dp K H v (dI ns)) : ∃ a, v = .ref a ∧ SqL K H a (ns.map V.int) := by
  obtain ⟨a, xs, e, h1, h2⟩ := dp_list h
  rw [dpa_ints h2] at h1
  exact ⟨a, e, h1⟩
theorem dI_mk {ns : List Int} {a : Addr} (h : SqL K H a (ns.map V.int)) : Dp K H (.ref a) (dI ns) := .lst h ints_dpa
theorem dp2 {d e : PyData} (h : Dp K H v (.tuple [d, e])) : ∃ a x y, v = .ref a ∧ SqT K H a [x, y] ∧ Dp K H x d ∧ Dp K H y e := by
  obtain ⟨a, xs, e, h1, h2⟩ := dp_tuple h
  cases h2 with
  | cons d1 r1 => cases r1 with
    | cons d2 r2 =>
      cases r2
      exact ⟨a, _, _, e, h1, d1, d2⟩
theorem dp3 {d e f : PyData} (h : Dp K H v (.tuple [d, e, f])) : ∃ a x y z, v = .ref a ∧ SqT K H a [x, y, z] ∧ Dp K H x d ∧ Dp K H y e ∧ Dp K H z f := by
  obtain ⟨a, xs, e, h1, h2⟩ := dp_tuple h
  cases h2 with
  | cons d1 r1 => cases r1 with
    | cons d2 r2 => cases r2 with
      | cons d3 r3 =>
        cases r3
        exact ⟨a, _, _, _, e, h1, d1, d2, d3⟩
end
def dRow (r : Int × List Nat) : PyData := .tuple [.int r.1, .tuple (r.2.map fun (g : Nat) => PyData.int (g : Int))]
def dM (m : Mc) : PyData := .tuple [.int m.p, .list (m.rows.map dRow), .int m.start]
section
variable {K : PySem.W.Frag} {H H' : Hp} {v : V} {xs : List V}
def goalsV (gs : List Nat) : List V := gs.map fun (g : Nat) => V.int (g : Int)
theorem goals_un : ∀ {gs : List Nat} {xs : List V}, DpAll K H xs (gs.map fun (g : Nat) => PyData.int (g : Int)) → xs = goalsV gs
  | [], _, .nil => rfl
  | n :: ns, _, .cons h t => by
    rw [dp_int h, goals_un t]
    rfl
theorem goals_mk : ∀ {gs : List Nat}, DpAll K H (goalsV gs) (gs.map fun (g : Nat) => PyData.int (g : Int))
  | [] => .nil
  | n :: ns => .cons (.int n) goals_mk
theorem dRow_un {r : Int × List Nat} (h : Dp K H v (dRow r)) : ∃ b g, v = .ref b ∧ SqT K H b [.int r.1, .ref g] ∧ SqT K H g (goalsV r.2) := by
  obtain ⟨a, x, y, e, h1, h2, h3⟩ := dp2 h
  obtain ⟨g, ys, e2, h4, h5⟩ := dp_tuple h3
  rw [dp_int h2, e2] at h1
  rw [goals_un h5] at h4
  exact ⟨a, g, e, h1, h4⟩
theorem dRow_mk {r : Int × List Nat} {b g : Addr} (h1 : SqT K H b [.int r.1, .ref g]) (h2 : SqT K H g (goalsV r.2)) : Dp K H (.ref b) (dRow r) :=
  .tup h1 (.cons (.int _) (.cons (.tup h2 goals_mk) .nil))
theorem dM_un {m : Mc} (h : Dp K H v (dM m)) : ∃ a l xs, v = .ref a ∧ SqT K H a [.int m.p, .ref l, .int m.start] ∧ SqL K H l xs ∧ DpAll K H xs (m.rows.map dRow) := by
  obtain ⟨a, x, y, z, e, h1, h2, h3, h4⟩ := dp3 h
  obtain ⟨l, xs, e2, h5, h6⟩ := dp_list h3
  rw [dp_int h2, e2, dp_int h4] at h1
  exact ⟨a, l, xs, e, h1, h5, h6⟩
theorem dM_mk {m : Mc} {a l : Addr} {xs : List V} (h1 : SqT K H a [.int m.p, .ref l, .int m.start]) (h2 : SqL K H l xs) (h3 : DpAll K H xs (m.rows.map dRow)) : Dp K H (.ref a) (dM m) :=
  .tup h1 (.cons (.int _) (.cons (.lst h2 h3) (.cons (.int _) .nil)))
theorem rows_at {m : Mc} {i : Nat} {r : Int × List Nat} (h : DpAll K H xs (m.rows.map dRow)) (hr : m.rows[i]? = some r) : ∃ b g, xs[i]? = some (.ref b) ∧ SqT K H b [.int r.1, .ref g] ∧ SqT K H g (goalsV r.2) := by
  obtain ⟨v, e, hv⟩ := dpa_get h (by rw [List.getElem?_map, hr]; rfl)
  obtain ⟨b, g, rfl, h1, h2⟩ := dRow_un hv
  exact ⟨b, g, e, h1, h2⟩
theorem rows_len {m : Mc} (h : DpAll K H xs (m.rows.map dRow)) : xs.length = m.rows.length := by rw [dpa_len h, List.length_map]
theorem okA_all : ∀ {ds : List PyData}, (∀ d ∈ ds, okD d = true) → okA ds = true
  | [], _ => by simp only [okA]
  | d :: ds, h => by
    simp only [okA, Bool.and_eq_true]
    exact ⟨h d List.mem_cons_self, okA_all fun e he => h e (List.mem_cons_of_mem _ he)⟩
theorem okA_ints (ns : List Int) : okA (ns.map PyData.int) = true := okA_all fun d h => by
  obtain ⟨n, _, rfl⟩ := List.mem_map.mp h
  simp only [okD]
theorem okD_I (ns : List Int) : okD (dI ns) = true := by
  simp only [okD, Bool.and_eq_true]
  refine ⟨?_, okA_ints ns⟩
  cases ns with
  | nil => rfl
  | cons a l => rfl
theorem okD_row (r : Int × List Nat) : okD (dRow r) = true := by
  simp only [dRow, okD, okA, Bool.and_true, Bool.true_and]
  exact okA_all fun d h => by
    obtain ⟨n, _, rfl⟩ := List.mem_map.mp h
    simp only [okD]
theorem okL_rows : ∀ rs : List (Int × List Nat), okL (rs.map dRow) = true
  | [] => rfl
  | [_] => rfl
  | _ :: _ :: _ => rfl
theorem okD_M (m : Mc) : okD (dM m) = true := by
  simp only [dM, okD, okA, Bool.and_true, Bool.true_and, Bool.and_eq_true]
  exact ⟨okL_rows m.rows, okA_all fun d h => by
    obtain ⟨r, _, rfl⟩ := List.mem_map.mp h
    exact okD_row r⟩
end
end L2.K55
namespace L2.K55
open PySem PySem.Spec PyProof.Rows
section
variable {J : It} {n : Nat} {G : Hp → Prop} {Y : Nat → Hp → V → Hp → Prop}
theorem lc_gen (w : Walk J n G Y) (hY : ∀ i H x H', Y i H x H' → Same H H') {g : TG} {te : TE} {vs : List Nat} {σ : St} {H1 : Hp} {D : Addr} {Qd : Hp → Prop} (hD : H1 D = none) (hn : n ≤ 100000)
    (R : Nat → V → Hp → Prop) (mono : ∀ i v H H', Same H H' → R i v H → R i v H') (hG : ∀ H, Same H1 H → G H)
    (step : ∀ i x H H', i < n → Same H1 (hide D H) → (∃ acc, H D = some (.lst acc)) → Y i H x H' → ∀ Q' : VK, (∀ y H3, Same H' H3 → R i y (hide D H3) → Q' y H3) →
      g x (wipe σ vs) H' fun σ2 H2 => wipe σ2 vs = wipe σ vs ∧ te σ2 H2 Q')
    (hd : ∀ H acc, Same H1 (hide D H) → H D = some (.lst acc) → acc.length = n → (∀ i v, acc[i]? = some v → R i v (hide D H)) → Qd H) :
    ∃ W : Nat → Nat → Hp → Prop, (∃ m, W 0 m (upd H1 D (.lst []))) ∧ ∀ i m H, W i m H →
      (J.stop i H ∧ Qd H) ∨ (J.go i H ∧ ∃ Nx : Hp → Prop, (∀ H', Nx H' → ∃ m', m' < m ∧ W (i + 1) m' H') ∧ ∀ x H', J.yld i H x H' → g x (wipe σ vs) H' fun σ2 H2 => wipe σ2 vs = wipe σ vs ∧ tYes σ2 H2 fun b H3 =>
        if b = true then te σ2 H3 fun y H4 => ∃ acc, H4 D = some (.lst acc) ∧ acc.length < sizeLine ∧ Nx (upd H4 D (.lst (acc ++ [y]))) else Nx H3) := by
  refine lc_it w (fun i H => Same H1 (hide D H) ∧ ∃ acc, H D = some (.lst acc) ∧ acc.length = i ∧ ∀ j v, acc[j]? = some v → R j v (hide D H)) ?_ ?_ ?_ ?_
  · refine ⟨fun a o q => ?_, [], upd_same, rfl, fun j v h => by simp at h⟩
    rw [hide_ne (ne_of_none q hD), upd_ne (ne_of_none q hD)]
    exact q
  · rintro i H _ ⟨s, _⟩
    exact hG H (s.trans hide_same)
  · rintro i x H H' hi ⟨s, acc, hacc, hl, hR⟩ y
    refine step i x H H' hi s ⟨acc, hacc⟩ y _ fun z H3 e r => ?_
    have e' : Same H H3 := (hY i H x H' y).trans e
    have hh : Same (hide D H3) (hide D (upd H3 D (.lst (acc ++ [z])))) := fun a o q => by
      have hne : a ≠ D := fun ab => by rw [ab, hide_at] at q; cases q
      rw [hide_ne hne] at q ⊢
      rw [upd_ne hne]
      exact q
    refine ⟨acc, e' _ _ hacc, Nat.lt_of_le_of_lt (show acc.length ≤ 100000 by omega) (by decide), (s.trans (hide_hide e')).trans hh, acc ++ [z], upd_same, by rw [List.length_append, hl]; rfl, fun j v hv => ?_⟩
    rcases Nat.lt_or_ge j acc.length with hj | hj
    · rw [List.getElem?_append_left hj] at hv
      exact mono _ _ _ _ ((hide_hide e').trans hh) (hR j v hv)
    · rw [List.getElem?_append_right hj] at hv
      have hj0 : j - acc.length = 0 := by
        have := (List.getElem?_eq_some_iff.mp hv).1
        simp at this
        omega
      rw [hj0] at hv
      cases hv
      have : j = i := by omega
      subst this
      exact mono _ _ _ _ hh r
  · rintro H ⟨s, acc, hacc, hl, hR⟩
    exact hd H acc s hacc hl hR
theorem lc_vals (w : Walk J n G Y) (hY : ∀ i H x H', Y i H x H' → Same H H') {g : TG} {te : TE} {vs : List Nat} {σ : St} {H1 : Hp} {D : Addr} {Qd : Hp → Prop} (hD : H1 D = none) (hn : n ≤ 100000)
    (f : Nat → V) (hG : ∀ H, Same H1 H → G H)
    (step : ∀ i x H H', i < n → Same H1 H → Y i H x H' → ∀ Q' : VK, (∀ H3, Same H' H3 → Q' (f i) H3) → g x (wipe σ vs) H' fun σ2 H2 => wipe σ2 vs = wipe σ vs ∧ te σ2 H2 Q')
    (hd : ∀ H, Same H1 (hide D H) → H D = some (.lst ((List.range n).map f)) → Qd H) :
    ∃ W : Nat → Nat → Hp → Prop, (∃ m, W 0 m (upd H1 D (.lst []))) ∧ ∀ i m H, W i m H →
      (J.stop i H ∧ Qd H) ∨ (J.go i H ∧ ∃ Nx : Hp → Prop, (∀ H', Nx H' → ∃ m', m' < m ∧ W (i + 1) m' H') ∧ ∀ x H', J.yld i H x H' → g x (wipe σ vs) H' fun σ2 H2 => wipe σ2 vs = wipe σ vs ∧ tYes σ2 H2 fun b H3 =>
        if b = true then te σ2 H3 fun y H4 => ∃ acc, H4 D = some (.lst acc) ∧ acc.length < sizeLine ∧ Nx (upd H4 D (.lst (acc ++ [y]))) else Nx H3) := by
  refine lc_gen w hY hD hn (fun i v _ => i < n ∧ v = f i) (fun _ _ _ _ _ h => h) hG (fun i x H H' hi s _ y Q' q => step i x H H' hi (s.trans hide_same) y Q' fun H3 e => q _ H3 e ⟨hi, rfl⟩) fun H acc s ha hl hR => hd H s ?_
  rw [ha]
  have : acc = (List.range n).map f := by
    apply List.ext_getElem?
    intro i
    rw [List.getElem?_map]
    rcases Nat.lt_or_ge i n with h | h
    · rw [List.getElem?_range h, List.getElem?_eq_getElem (by omega), (hR i _ (List.getElem?_eq_getElem (by omega))).2]
      rfl
    · rw [List.getElem?_eq_none (by omega), List.getElem?_eq_none (by rw [List.length_range]; exact h)]
      rfl
  rw [this]
theorem lc_ys (w : Walk J n G Y) (hY : ∀ i H x H', Y i H x H' → Same H H') {g : TG} {te : TE} {vs : List Nat} {σ : St} {H1 : Hp} {D : Addr} {Qd : Hp → Prop} (hD : H1 D = none) (hn : n ≤ 100000)
    (ys : List V) (hl : ys.length = n) (hG : ∀ H, Same H1 H → G H)
    (step : ∀ i x z H H', ys[i]? = some z → Same H1 H → Y i H x H' → ∀ Q' : VK, (∀ H3, Same H' H3 → Q' z H3) → g x (wipe σ vs) H' fun σ2 H2 => wipe σ2 vs = wipe σ vs ∧ te σ2 H2 Q')
    (hd : ∀ H, Same H1 (hide D H) → H D = some (.lst ys) → Qd H) :
    ∃ W : Nat → Nat → Hp → Prop, (∃ m, W 0 m (upd H1 D (.lst []))) ∧ ∀ i m H, W i m H →
      (J.stop i H ∧ Qd H) ∨ (J.go i H ∧ ∃ Nx : Hp → Prop, (∀ H', Nx H' → ∃ m', m' < m ∧ W (i + 1) m' H') ∧ ∀ x H', J.yld i H x H' → g x (wipe σ vs) H' fun σ2 H2 => wipe σ2 vs = wipe σ vs ∧ tYes σ2 H2 fun b H3 =>
        if b = true then te σ2 H3 fun y H4 => ∃ acc, H4 D = some (.lst acc) ∧ acc.length < sizeLine ∧ Nx (upd H4 D (.lst (acc ++ [y]))) else Nx H3) := by
  refine lc_vals w hY hD hn (fun i => (ys[i]?).getD .non) hG (fun i x H H' hi s y Q' q => ?_) fun H s hH => hd H s ?_
  · have e : ys[i]? = some ys[i] := List.getElem?_eq_getElem (by omega)
    exact step i x _ H H' e s y Q' fun H3 e3 => by
      have := q H3 e3
      rw [e] at this
      exact this
  · rw [hH]
    have : (List.range n).map (fun i => (ys[i]?).getD V.non) = ys := by
      apply List.ext_getElem?
      intro i
      rw [List.getElem?_map]
      rcases Nat.lt_or_ge i n with h | h
      · have e : ys[i]? = some ys[i] := List.getElem?_eq_getElem (by omega)
        rw [List.getElem?_range h, e]
        show some ((ys[i]?).getD V.non) = some ys[i]
        rw [e]
        rfl
      · have e : ys[i]? = none := List.getElem?_eq_none (by omega)
        rw [e, List.getElem?_eq_none (by rw [List.length_range]; exact h)]
        rfl
    rw [this]
theorem lc_filt (w : Walk J n G Y) (hY : ∀ i H x H', Y i H x H' → Same H H') {g : TG} {tt : TT} {te : TE} {vs : List Nat} {σ : St} {H1 : Hp} {D : Addr} {Qd : Hp → Prop} (hD : H1 D = none) (hn : n ≤ 100000)
    (f : Nat → V) (p : Nat → Bool) (hG : ∀ H, Same H1 H → G H)
    (step : ∀ i x H H', i < n → Same H1 H → Y i H x H' →
      g x (wipe σ vs) H' fun σ2 H2 => wipe σ2 vs = wipe σ vs ∧ tt σ2 H2 fun b H3 => b = p i ∧ Same H' H3 ∧ ∀ Q' : VK, (∀ H4, Same H3 H4 → Q' (f i) H4) → te σ2 H3 Q')
    (hmg : ∀ x σ' H' (Q1 Q2 : St → Hp → Prop), (∀ s h, Q1 s h → Q2 s h) → g x σ' H' Q1 → g x σ' H' Q2) (hmt : ∀ σ' H' (Q1 Q2 : Bool → Hp → Prop), (∀ s h, Q1 s h → Q2 s h) → tt σ' H' Q1 → tt σ' H' Q2)
    (hd : ∀ H, Same H1 (hide D H) → H D = some (.lst (((List.range n).filter p).map f)) → Qd H) :
    ∃ W : Nat → Nat → Hp → Prop, (∃ m, W 0 m (upd H1 D (.lst []))) ∧ ∀ i m H, W i m H →
      (J.stop i H ∧ Qd H) ∨ (J.go i H ∧ ∃ Nx : Hp → Prop, (∀ H', Nx H' → ∃ m', m' < m ∧ W (i + 1) m' H') ∧ ∀ x H', J.yld i H x H' → g x (wipe σ vs) H' fun σ2 H2 => wipe σ2 vs = wipe σ vs ∧ tt σ2 H2 fun b H3 =>
        if b = true then te σ2 H3 fun y H4 => ∃ acc, H4 D = some (.lst acc) ∧ acc.length < sizeLine ∧ Nx (upd H4 D (.lst (acc ++ [y]))) else Nx H3) := by
  have hhS : ∀ (H : Hp) (o : HO), Same (hide D H) (hide D (upd H D o)) := fun H o a u q => by
    have hne : a ≠ D := fun ab => by rw [ab, hide_at] at q; cases q
    rw [hide_ne hne] at q ⊢
    rw [upd_ne hne]
    exact q
  refine lc_it w (fun i H => Same H1 (hide D H) ∧ H D = some (.lst (((List.range i).filter p).map f))) ?_ ?_ ?_ ?_
  · refine ⟨fun a o q => ?_, upd_same⟩
    rw [hide_ne (ne_of_none q hD), upd_ne (ne_of_none q hD)]
    exact q
  · rintro i H _ ⟨s, _⟩
    exact hG H (s.trans hide_same)
  · rintro i x H H' hi ⟨s, hacc⟩ y
    have eY := hY i H x H' y
    refine hmg _ _ _ _ _ (fun σ2 H2 ⟨e1, e2⟩ => ⟨e1, hmt _ _ _ _ (fun b H3 ⟨e3, e4, e5⟩ => ?_) e2⟩) (step i x H H' hi (s.trans hide_same) y)
    subst e3
    have e' : Same H H3 := eY.trans e4
    cases hp : p i with
    | true =>
      rw [if_pos rfl]
      refine e5 _ fun H4 e6 => ?_
      have e7 : Same H H4 := e'.trans e6
      have hlen : (((List.range i).filter p).map f).length ≤ i := by
        rw [List.length_map]
        exact Nat.le_trans (List.length_filter_le _ _) (by rw [List.length_range]; exact Nat.le_refl _)
      refine ⟨_, e7 _ _ hacc, Nat.lt_of_le_of_lt (show _ ≤ 100000 by omega) (by decide), (s.trans (hide_hide e7)).trans (hhS _ _), ?_⟩
      rw [upd_same, List.range_succ, List.filter_append, List.map_append, List.filter_cons_of_pos hp]
      rfl
    | false =>
      rw [if_neg Bool.false_ne_true]
      refine ⟨s.trans (hide_hide e'), ?_⟩
      rw [e' _ _ hacc, List.range_succ, List.filter_append, List.filter_cons_of_neg (by rw [hp]; exact Bool.false_ne_true), List.filter_nil, List.append_nil]
  · rintro H ⟨s, hacc⟩
    exact hd H s hacc
theorem sameAt {xs : List V} : ∀ i H x H', YAt xs i H x H' → Same H H' := fun i H x H' y => by
  rw [y.1]
  exact Same.refl _
theorem sameFn {f : Nat → V} : ∀ i H x H', YFn f i H x H' → Same H H' := fun i H x H' y => by
  rw [y.1]
  exact Same.refl _
theorem samePair {xs ys : Nat → Option V} : ∀ i H x H', YPair xs ys i H x H' → Same H H' := fun i H x H' y => by
  obtain ⟨T, x, y, _, hT, rfl, _⟩ := y
  exact (Same.refl _).new hT
end
section
variable (P : Program) (w : World) (K : PySem.W.Frag) (mg : Str → Option Value) (base : Heap)
def Raw (x : Str) (st : Stmt) : Prop := ∃ f fd, Fun K x x st f fd ∧ mg x = some (.ref f)
def Known (x : Str) (k : Nat) (ps : List Str) (sp : Sp) : Prop := ∃ f fd, FnOk P w K mg base CX0 k f fd ps sp ∧ mg x = some (.ref f) ∧ PySem.W.keepIn K (.ref f) = true ∧ Binds K fd ps []
def RawM (C : Addr) (x qual : Str) (st : Stmt) : Prop := ∃ f fd, Fun K x qual st f fd ∧ PySem.W.findIn K (.ref C) x = some (some (.ref f)) ∧ PySem.W.isFn K (.ref f) = true
def KnownM (C : Addr) (x : Str) (k : Nat) (ps : List Str) (sp : Sp) : Prop := ∃ f fd, FnOk P w K mg base CX0 k f fd ps sp ∧ Meth K C x f ∧ Binds K fd ps []
def RawP (C : Addr) (x qual : Str) (st : Stmt) : Prop := ∃ p g fd, Fun K x qual st g fd ∧ PropOf K C x p g
def KnownP (C : Addr) (x : Str) (k : Nat) (sp : Sp) : Prop := ∃ p g fd, FnOk P w K mg base CX0 k g fd ["self"] sp ∧ PropOf K C x p g ∧ Binds K fd ["self"] []
end
section
variable {P : Program} {w : World} {K : PySem.W.Frag} {mg : Str → Option Value} {base : Heap} {x qual : Str} {st : Stmt} {k : Nat} {ps : List Str} {sp : Sp} {C : Addr}
theorem Known.mono {j : Nat} (F : Known P w K mg base x j ps sp) (h : j ≤ k) : Known P w K mg base x k ps sp := by
  obtain ⟨f, fd, F, r⟩ := F
  exact ⟨f, fd, F.mono h, r⟩
theorem KnownM.mono {j : Nat} (F : KnownM P w K mg base C x j ps sp) (h : j ≤ k) : KnownM P w K mg base C x k ps sp := by
  obtain ⟨f, fd, F, r⟩ := F
  exact ⟨f, fd, F.mono h, r⟩
theorem KnownP.mono {j : Nat} (F : KnownP P w K mg base C x j sp) (h : j ≤ k) : KnownP P w K mg base C x k sp := by
  obtain ⟨p, f, fd, F, r⟩ := F
  exact ⟨p, f, fd, F.mono h, r⟩
theorem known {N : List Str} (R : Raw K mg x st) (S : FnScope N ps (defScope st))
    (hb : ∀ (kV doc pm : Value) (an : Option Addr) (cdv ct : Value) (us : List Value), us.length = ps.length → bindArgs (PySem.W.fnOf x x (defArgs st) (defBody st) (defScope st) .none kV doc pm an cdv ct) ⟨us, []⟩ = pure (ps.zip us))
    (len : ∀ vs H Q E, sp vs H Q E → vs.length = ps.length)
    (hbody : ∀ (f : Addr) (cdv : Value) (A : Around) (outer : List Env) (s : Shared) (H : Hp) (vs : List V) (Q : VK) (E : XK), Room k (A.deeper (envOfC x (defScope st) s.heap.objs.size f cdv)) → sp vs H Q E →
      ∃ t, PSs (cxOf CX0 P w K mg base N x (defScope st) f cdv A outer s H E).nox (defBody st) t ∧ t { nx := fun _ H' => Q .non H', rt := Q } (start N vs) H) : Known P w K mg base x (k + 1) ps sp := by
  obtain ⟨f, fd, F, m⟩ := R
  exact ⟨f, fd, F.ok S len (hbody f), m, F.kp, F.binds hb⟩
theorem knownM {N : List Str} (R : RawM K C x qual st) (S : FnScope N ps (defScope st))
    (hb : ∀ (kV doc pm : Value) (an : Option Addr) (cdv ct : Value) (us : List Value), us.length = ps.length → bindArgs (PySem.W.fnOf x qual (defArgs st) (defBody st) (defScope st) .none kV doc pm an cdv ct) ⟨us, []⟩ = pure (ps.zip us))
    (len : ∀ vs H Q E, sp vs H Q E → vs.length = ps.length)
    (hbody : ∀ (f : Addr) (cdv : Value) (A : Around) (outer : List Env) (s : Shared) (H : Hp) (vs : List V) (Q : VK) (E : XK), Room k (A.deeper (envOfC qual (defScope st) s.heap.objs.size f cdv)) → sp vs H Q E →
      ∃ t, PSs (cxOf CX0 P w K mg base N qual (defScope st) f cdv A outer s H E).nox (defBody st) t ∧ t { nx := fun _ H' => Q .non H', rt := Q } (start N vs) H) : KnownM P w K mg base C x (k + 1) ps sp := by
  obtain ⟨f, fd, F, m, i⟩ := R
  exact ⟨f, fd, F.ok S len (hbody f), ⟨m, i, F.kp⟩, F.binds hb⟩
theorem knownP {N : List Str} (R : RawP K C x qual st) (S : FnScope N ["self"] (defScope st))
    (hb : ∀ (kV doc pm : Value) (an : Option Addr) (cdv ct : Value) (us : List Value), us.length = 1 → bindArgs (PySem.W.fnOf x qual (defArgs st) (defBody st) (defScope st) .none kV doc pm an cdv ct) ⟨us, []⟩ = pure ((["self"] : List Str).zip us))
    (len : ∀ vs H Q E, sp vs H Q E → vs.length = 1)
    (hbody : ∀ (f : Addr) (cdv : Value) (A : Around) (outer : List Env) (s : Shared) (H : Hp) (vs : List V) (Q : VK) (E : XK), Room k (A.deeper (envOfC qual (defScope st) s.heap.objs.size f cdv)) → sp vs H Q E →
      ∃ t, PSs (cxOf CX0 P w K mg base N qual (defScope st) f cdv A outer s H E).nox (defBody st) t ∧ t { nx := fun _ H' => Q .non H', rt := Q } (start N vs) H) : KnownP P w K mg base C x (k + 1) sp := by
  obtain ⟨p, f, fd, F, m⟩ := R
  exact ⟨p, f, fd, F.ok S len (hbody f), m, F.binds hb⟩
end
section
variable {X : Cx} {x m : Str} {k : Nat} {ps : List Str} {sp : Sp} {C : Addr} {e o : Expr} {es : List Expr} {t : TA} {ta : TE} {p pos apos : Pos}
theorem pk (F : Known X.prog X.w X.K X.mg X.base x k ps sp) (hr : Room k X.A) (hg : Gl X x) (ha : PA X (e :: es) t) (hdb : (x == ("__debug__" : Str)) = false := by decide)
    (he : starEach (e :: es) X.env = (false, eval e X.env) :: starEach es X.env := by rfl) (hpl : (backTo pos (starEach es X.env)).any (·.1) = false := by rfl) : PE X (.Call (.Name x p) (e :: es) [] pos) (tCall sp [] E0 t) := by
  obtain ⟨f, fd, F, hm, hk, hb⟩ := F
  exact pe_call F hr hg hm hk hb .nil pass0 ha hdb he hpl
theorem pkm0 {pl : Sem Bool} (he : PE X o ta) (c : Cls X.K C) (F : KnownM X.prog X.w X.K X.mg X.base C m k ps sp) (hr : Room k X.A)
    (ht : eval (.Call (.Attribute o m apos) [] [] pos) X.env = (do
      let ov ← eval o X.env
      standAt apos.atName
      let (f, first) ← holding [ov] (getMethod ov m pl)
      callWith pos f first (backTo pos (starEach [] X.env)) (backToKw pos (keywordEach [] X.env))) := by rfl) : PE X (.Call (.Attribute o m apos) [] [] pos) (tMeth C m sp [] E0 ta tNil) := by
  obtain ⟨f, fd, F, hm, hb⟩ := F
  exact pe_meth0 he c hm F hr hb .nil pass0 ht
theorem pkp (he : PE X e ta) (c : Cls X.K C) (F : KnownP X.prog X.w X.K X.mg X.base C m k sp) (hr : Room (k + 1) X.A) (hab : attributeBase e m X.env (eval e X.env) = eval e X.env := by rfl) : PE X (.Attribute e m pos) (tProp C sp [] E0 ta) := by
  obtain ⟨p, g, fd, F, hp, hb⟩ := F
  exact pe_prop he c hp F hr hb .nil pass0 hab
theorem call_lenK (F : KnownM X.prog X.w X.K X.mg X.base C "__len__" k ps sp) (hr : Room (k + 1) X.A) : CallR X (.builtin "len") (rOwn C sp E0 fun v => ∃ n : Nat, v = .int n ∧ n < 2 ^ 63) := by
  obtain ⟨f, fd, F, hm, hb⟩ := F
  exact call_lenOwn F hr hb pass0 hm.at_ hm.fn
end
end L2.K55
namespace L2.K55
open PySem PySem.Spec PyProof.Rows
def top (i : Nat) : Stmt := PySem.Challenge.pw_lowturns_k55_whole_matches_judged.main.body.getD i (.Pass ⟨0, 0, 0, 0⟩)
abbrev s_is_number : Stmt := top 18
abbrev N_is_number : List Str := ["value"]
theorem sc_is_number : FnScope N_is_number ["value"] (defScope s_is_number) := ⟨rfl, rfl, rfl, by decide +kernel, rfl, by decide +kernel, by decide +kernel⟩
abbrev s_is_within : Stmt := top 19
abbrev N_is_within : List Str := ["value", "low", "high"]
theorem sc_is_within : FnScope N_is_within ["value", "low", "high"] (defScope s_is_within) := ⟨rfl, rfl, rfl, by decide +kernel, rfl, by decide +kernel, by decide +kernel⟩
abbrev s_is_list : Stmt := top 20
abbrev N_is_list : List Str := ["value"]
theorem sc_is_list : FnScope N_is_list ["value"] (defScope s_is_list) := ⟨rfl, rfl, rfl, by decide +kernel, rfl, by decide +kernel, by decide +kernel⟩
abbrev s_is_figure : Stmt := top 21
abbrev N_is_figure : List Str := ["prime", "value"]
theorem sc_is_figure : FnScope N_is_figure ["prime", "value"] (defScope s_is_figure) := ⟨rfl, rfl, rfl, by decide +kernel, rfl, by decide +kernel, by decide +kernel⟩
abbrev s_is_prime : Stmt := top 22
abbrev N_is_prime : List Str := ["value"]
theorem sc_is_prime : FnScope N_is_prime ["value"] (defScope s_is_prime) := ⟨rfl, rfl, rfl, by decide +kernel, rfl, by decide +kernel, by decide +kernel⟩
abbrev s_need_prime : Stmt := top 23
abbrev N_need_prime : List Str := ["value"]
theorem sc_need_prime : FnScope N_need_prime ["value"] (defScope s_need_prime) := ⟨rfl, rfl, rfl, by decide +kernel, rfl, by decide +kernel, by decide +kernel⟩
abbrev s_copied : Stmt := top 27
abbrev N_copied : List Str := ["value", "item"]
theorem sc_copied : FnScope N_copied ["value"] (defScope s_copied) := ⟨rfl, rfl, rfl, by decide +kernel, rfl, by decide +kernel, by decide +kernel⟩
abbrev s_are_counts : Stmt := top 29
abbrev N_are_counts : List Str := ["turner", "value", "one"]
theorem sc_are_counts : FnScope N_are_counts ["turner", "value"] (defScope s_are_counts) := ⟨rfl, rfl, rfl, by decide +kernel, rfl, by decide +kernel, by decide +kernel⟩
abbrev s_need_counts : Stmt := top 30
abbrev N_need_counts : List Str := ["turner", "value"]
theorem sc_need_counts : FnScope N_need_counts ["turner", "value"] (defScope s_need_counts) := ⟨rfl, rfl, rfl, by decide +kernel, rfl, by decide +kernel, by decide +kernel⟩
abbrev s_first_counts : Stmt := top 31
abbrev N_first_counts : List Str := ["turner", "state"]
theorem sc_first_counts : FnScope N_first_counts ["turner"] (defScope s_first_counts) := ⟨rfl, rfl, rfl, by decide +kernel, rfl, by decide +kernel, by decide +kernel⟩
abbrev s_next_counts : Stmt := top 32
abbrev N_next_counts : List Str := ["turner", "counts", "found", "turn", "targets", "count", "target", "one"]
theorem sc_next_counts : FnScope N_next_counts ["turner", "counts"] (defScope s_next_counts) := ⟨rfl, rfl, rfl, by decide +kernel, rfl, by decide +kernel, by decide +kernel⟩
abbrev s_turn_total : Stmt := top 33
abbrev N_turn_total : List Str := ["turner", "counts", "count", "turn", "targets"]
theorem sc_turn_total : FnScope N_turn_total ["turner", "counts"] (defScope s_turn_total) := ⟨rfl, rfl, rfl, by decide +kernel, rfl, by decide +kernel, by decide +kernel⟩
abbrev s_is_chain : Stmt := top 35
abbrev N_is_chain : List Str := ["turner", "counts", "rows", "one", "later"]
theorem sc_is_chain : FnScope N_is_chain ["turner", "counts"] (defScope s_is_chain) := ⟨rfl, rfl, rfl, by decide +kernel, rfl, by decide +kernel, by decide +kernel⟩
abbrev s_Match_init : Stmt := inClass (top 37) 0
abbrev N_Match_init : List Str := ["self", "one", "other", "pairs", "back"]
theorem sc_Match_init : FnScope N_Match_init ["self", "one", "other", "pairs", "back"] (defScope s_Match_init) := ⟨rfl, rfl, rfl, by decide +kernel, rfl, by decide +kernel, by decide +kernel⟩
abbrev s_Match_one : Stmt := inClass (top 37) 1
abbrev N_Match_one : List Str := ["self"]
theorem sc_Match_one : FnScope N_Match_one ["self"] (defScope s_Match_one) := ⟨rfl, rfl, rfl, by decide +kernel, rfl, by decide +kernel, by decide +kernel⟩
abbrev s_Match_other : Stmt := inClass (top 37) 2
abbrev N_Match_other : List Str := ["self"]
theorem sc_Match_other : FnScope N_Match_other ["self"] (defScope s_Match_other) := ⟨rfl, rfl, rfl, by decide +kernel, rfl, by decide +kernel, by decide +kernel⟩
abbrev s_Match_pairs : Stmt := inClass (top 37) 3
abbrev N_Match_pairs : List Str := ["self"]
theorem sc_Match_pairs : FnScope N_Match_pairs ["self"] (defScope s_Match_pairs) := ⟨rfl, rfl, rfl, by decide +kernel, rfl, by decide +kernel, by decide +kernel⟩
abbrev s_Match_back : Stmt := inClass (top 37) 4
abbrev N_Match_back : List Str := ["self"]
theorem sc_Match_back : FnScope N_Match_back ["self"] (defScope s_Match_back) := ⟨rfl, rfl, rfl, by decide +kernel, rfl, by decide +kernel, by decide +kernel⟩
abbrev s_Match_holds : Stmt := inClass (top 37) 5
abbrev N_Match_holds : List Str := ["self", "one", "other", "pairs", "back", "totals", "pair", "mine", "its"]
theorem sc_Match_holds : FnScope N_Match_holds ["self"] (defScope s_Match_holds) := ⟨rfl, rfl, rfl, by decide +kernel, rfl, by decide +kernel, by decide +kernel⟩
abbrev s_Match_len : Stmt := inClass (top 37) 6
abbrev N_Match_len : List Str := ["self"]
theorem sc_Match_len : FnScope N_Match_len ["self"] (defScope s_Match_len) := ⟨rfl, rfl, rfl, by decide +kernel, rfl, by decide +kernel, by decide +kernel⟩
abbrev s_Match_repr : Stmt := inClass (top 37) 7
abbrev N_Match_repr : List Str := ["self"]
theorem sc_Match_repr : FnScope N_Match_repr ["self"] (defScope s_Match_repr) := ⟨rfl, rfl, rfl, by decide +kernel, rfl, by decide +kernel, by decide +kernel⟩
abbrev s_is_state : Stmt := top 39
abbrev N_is_state : List Str := ["prime", "value", "many", "targets", "target"]
theorem sc_is_state : FnScope N_is_state ["prime", "value", "many"] (defScope s_is_state) := ⟨rfl, rfl, rfl, by decide +kernel, rfl, by decide +kernel, by decide +kernel⟩
abbrev s_Turner_init : Stmt := inClass (top 43) 1
abbrev N_Turner_init : List Str := ["self", "prime", "states", "start", "index", "state"]
theorem sc_Turner_init : FnScope N_Turner_init ["self", "prime", "states", "start"] (defScope s_Turner_init) := ⟨rfl, rfl, rfl, by decide +kernel, rfl, by decide +kernel, by decide +kernel⟩
abbrev s_Turner_prime : Stmt := inClass (top 43) 4
abbrev N_Turner_prime : List Str := ["self"]
theorem sc_Turner_prime : FnScope N_Turner_prime ["self"] (defScope s_Turner_prime) := ⟨rfl, rfl, rfl, by decide +kernel, rfl, by decide +kernel, by decide +kernel⟩
abbrev s_Turner_start : Stmt := inClass (top 43) 5
abbrev N_Turner_start : List Str := ["self"]
theorem sc_Turner_start : FnScope N_Turner_start ["self"] (defScope s_Turner_start) := ⟨rfl, rfl, rfl, by decide +kernel, rfl, by decide +kernel, by decide +kernel⟩
abbrev s_Turner_states : Stmt := inClass (top 43) 7
abbrev N_Turner_states : List Str := ["self"]
theorem sc_Turner_states : FnScope N_Turner_states ["self"] (defScope s_Turner_states) := ⟨rfl, rfl, rfl, by decide +kernel, rfl, by decide +kernel, by decide +kernel⟩
abbrev s_Turner_eq : Stmt := inClass (top 43) 17
abbrev N_Turner_eq : List Str := ["self", "other"]
theorem sc_Turner_eq : FnScope N_Turner_eq ["self", "other"] (defScope s_Turner_eq) := ⟨rfl, rfl, rfl, by decide +kernel, rfl, by decide +kernel, by decide +kernel⟩
abbrev s_Turner_len : Stmt := inClass (top 43) 18
abbrev N_Turner_len : List Str := ["self"]
theorem sc_Turner_len : FnScope N_Turner_len ["self"] (defScope s_Turner_len) := ⟨rfl, rfl, rfl, by decide +kernel, rfl, by decide +kernel, by decide +kernel⟩
abbrev s_law_bag : Stmt := top 46
abbrev N_law_bag : List Str := ["_law_script", "_law_mixed_here", "_law_cell"]
theorem sc_law_bag : FnScope N_law_bag ["_law_script"] (defScope s_law_bag) := ⟨rfl, rfl, rfl, by decide +kernel, rfl, by decide +kernel, by decide +kernel⟩
abbrev s_law_pull : Stmt := top 47
abbrev N_law_pull : List Str := ["_law_bag_here", "_law_many", "_law_cell", "_law_digit", "_law_twice"]
theorem sc_law_pull : FnScope N_law_pull ["_law_bag_here", "_law_many"] (defScope s_law_pull) := ⟨rfl, rfl, rfl, by decide +kernel, rfl, by decide +kernel, by decide +kernel⟩
abbrev s_law_of : Stmt := top 48
abbrev N_law_of : List Str := ["_law_bag_here", "_law_some"]
theorem sc_law_of : FnScope N_law_of ["_law_bag_here", "_law_some"] (defScope s_law_of) := ⟨rfl, rfl, rfl, by decide +kernel, rfl, by decide +kernel, by decide +kernel⟩
abbrev s_law_mixed : Stmt := top 49
abbrev N_law_mixed : List Str := ["_law_bag_here", "_law_some", "_law_left", "_law_found"]
theorem sc_law_mixed : FnScope N_law_mixed ["_law_bag_here", "_law_some"] (defScope s_law_mixed) := ⟨rfl, rfl, rfl, by decide +kernel, rfl, by decide +kernel, by decide +kernel⟩
abbrev s_law_same : Stmt := top 50
abbrev N_law_same : List Str := ["_law_found", "_law_due", "_law_a", "_law_b"]
theorem sc_law_same : FnScope N_law_same ["_law_found", "_law_due"] (defScope s_law_same) := ⟨rfl, rfl, rfl, by decide +kernel, rfl, by decide +kernel, by decide +kernel⟩
abbrev s_law_prime : Stmt := top 51
abbrev N_law_prime : List Str := ["_law_bag_here"]
theorem sc_law_prime : FnScope N_law_prime ["_law_bag_here"] (defScope s_law_prime) := ⟨rfl, rfl, rfl, by decide +kernel, rfl, by decide +kernel, by decide +kernel⟩
abbrev s_law_figures : Stmt := top 52
abbrev N_law_figures : List Str := ["_law_bag_here", "_law_p", "_law_many", "_law_k"]
theorem sc_law_figures : FnScope N_law_figures ["_law_bag_here", "_law_p", "_law_many"] (defScope s_law_figures) := ⟨rfl, rfl, rfl, by decide +kernel, rfl, by decide +kernel, by decide +kernel⟩
abbrev s_law_plain : Stmt := top 53
abbrev N_law_plain : List Str := ["_law_bag_here", "_law_p", "_law_top", "_law_many", "_law_rows", "_law_k"]
theorem sc_law_plain : FnScope N_law_plain ["_law_bag_here", "_law_p", "_law_top"] (defScope s_law_plain) := ⟨rfl, rfl, rfl, by decide +kernel, rfl, by decide +kernel, by decide +kernel⟩
abbrev s_law_made : Stmt := top 54
abbrev N_law_made : List Str := ["_law_m"]
theorem sc_law_made : FnScope N_law_made ["_law_m"] (defScope s_law_made) := ⟨rfl, rfl, rfl, by decide +kernel, rfl, by decide +kernel, by decide +kernel⟩
abbrev s_law_undone : Stmt := top 55
abbrev N_law_undone : List Str := ["_law_m", "_law_p", "_law_rows", "_law_turn", "_law_goals", "_law_late", "_law_x"]
theorem sc_law_undone : FnScope N_law_undone ["_law_m"] (defScope s_law_undone) := ⟨rfl, rfl, rfl, by decide +kernel, rfl, by decide +kernel, by decide +kernel⟩
abbrev s_law_joined : Stmt := top 56
abbrev N_law_joined : List Str := ["_law_m", "_law_n", "_law_p", "_law_keys", "_law_rows", "_law_a", "_law_b", "_law_turn", "_law_goals", "_law_x", "_law_pair"]
theorem sc_law_joined : FnScope N_law_joined ["_law_m", "_law_n"] (defScope s_law_joined) := ⟨rfl, rfl, rfl, by decide +kernel, rfl, by decide +kernel, by decide +kernel⟩
abbrev s_law_odometer : Stmt := top 57
abbrev N_law_odometer : List Str := ["_law_p"]
theorem sc_law_odometer : FnScope N_law_odometer ["_law_p"] (defScope s_law_odometer) := ⟨rfl, rfl, rfl, by decide +kernel, rfl, by decide +kernel, by decide +kernel⟩
abbrev s_law_single : Stmt := top 58
abbrev N_law_single : List Str := ["_law_bag_here", "_law_p", "_law_m", "_law_g"]
theorem sc_law_single : FnScope N_law_single ["_law_bag_here", "_law_p"] (defScope s_law_single) := ⟨rfl, rfl, rfl, by decide +kernel, rfl, by decide +kernel, by decide +kernel⟩
abbrev s_law_first : Stmt := top 59
abbrev N_law_first : List Str := ["_law_m", "_law_k"]
theorem sc_law_first : FnScope N_law_first ["_law_m"] (defScope s_law_first) := ⟨rfl, rfl, rfl, by decide +kernel, rfl, by decide +kernel, by decide +kernel⟩
abbrev s_law_later : Stmt := top 60
abbrev N_law_later : List Str := ["_law_m", "_law_row", "_law_found", "_law_k", "_law_goal"]
theorem sc_law_later : FnScope N_law_later ["_law_m", "_law_row"] (defScope s_law_later) := ⟨rfl, rfl, rfl, by decide +kernel, rfl, by decide +kernel, by decide +kernel⟩
abbrev s_law_sum : Stmt := top 61
abbrev N_law_sum : List Str := ["_law_m", "_law_row", "_law_k"]
theorem sc_law_sum : FnScope N_law_sum ["_law_m", "_law_row"] (defScope s_law_sum) := ⟨rfl, rfl, rfl, by decide +kernel, rfl, by decide +kernel, by decide +kernel⟩
abbrev s_law_rows_of : Stmt := top 62
abbrev N_law_rows_of : List Str := ["_law_m", "_law_many", "_law_found"]
theorem sc_law_rows_of : FnScope N_law_rows_of ["_law_m", "_law_many"] (defScope s_law_rows_of) := ⟨rfl, rfl, rfl, by decide +kernel, rfl, by decide +kernel, by decide +kernel⟩
abbrev s_law_decided : Stmt := top 63
abbrev N_law_decided : List Str := ["_law_m", "_law_top", "_law_found", "_law_places", "_law_here"]
theorem sc_law_decided : FnScope N_law_decided ["_law_m", "_law_top"] (defScope s_law_decided) := ⟨rfl, rfl, rfl, by decide +kernel, rfl, by decide +kernel, by decide +kernel⟩
abbrev s_law_doubled : Stmt := top 64
abbrev N_law_doubled : List Str := ["_law_bag_here", "_law_m", "_law_many", "_law_owners", "_law_rows", "_law_owner", "_law_turn", "_law_goals", "_law_k", "_law_goal"]
theorem sc_law_doubled : FnScope N_law_doubled ["_law_bag_here", "_law_m"] (defScope s_law_doubled) := ⟨rfl, rfl, rfl, by decide +kernel, rfl, by decide +kernel, by decide +kernel⟩
abbrev s_law_is_row : Stmt := top 65
abbrev N_law_is_row : List Str := ["_law_m", "_law_row", "_law_one"]
theorem sc_law_is_row : FnScope N_law_is_row ["_law_m", "_law_row"] (defScope s_law_is_row) := ⟨rfl, rfl, rfl, by decide +kernel, rfl, by decide +kernel, by decide +kernel⟩
abbrev s_law_is_chain : Stmt := top 66
abbrev N_law_is_chain : List Str := ["_law_m", "_law_some", "_law_row"]
theorem sc_law_is_chain : FnScope N_law_is_chain ["_law_m", "_law_some"] (defScope s_law_is_chain) := ⟨rfl, rfl, rfl, by decide +kernel, rfl, by decide +kernel, by decide +kernel⟩
abbrev s_law_single_holds : Stmt := top 67
abbrev N_law_single_holds : List Str := ["_law_m", "_law_some", "_law_back_z", "_law_row"]
theorem sc_law_single_holds : FnScope N_law_single_holds ["_law_m", "_law_some", "_law_back_z"] (defScope s_law_single_holds) := ⟨rfl, rfl, rfl, by decide +kernel, rfl, by decide +kernel, by decide +kernel⟩
abbrev s_law_match_holds : Stmt := top 68
abbrev N_law_match_holds : List Str := ["_law_m", "_law_n", "_law_some", "_law_back_z", "_law_mine", "_law_its", "_law_pair", "_law_row"]
theorem sc_law_match_holds : FnScope N_law_match_holds ["_law_m", "_law_n", "_law_some", "_law_back_z"] (defScope s_law_match_holds) := ⟨rfl, rfl, rfl, by decide +kernel, rfl, by decide +kernel, by decide +kernel⟩
abbrev s_law_match_lists_so : Stmt := top 69
abbrev N_law_match_lists_so : List Str := ["_law_three_z", "_law_rows", "_law_late", "_law_k"]
theorem sc_law_match_lists_so : FnScope N_law_match_lists_so ["_law_three_z"] (defScope s_law_match_lists_so) := ⟨rfl, rfl, rfl, by decide +kernel, rfl, by decide +kernel, by decide +kernel⟩
abbrev s_law : Stmt := top 70
abbrev N_law : List Str := ["_law_script", "_law_bag_here", "_law_turn_z", "_law_p", "_law_m", "_law_n", "_law_rows", "_law_k", "_law_due", "_law_at", "_law_bent", "_law_some", "_law_back_z", "_law_given", "_law_found", "_law_many", "_law_two_z", "_law_three_z", "_law_both", "_law_told"]
theorem sc_law : FnScope N_law ["_law_script"] (defScope s_law) := ⟨rfl, rfl, rfl, by decide +kernel, rfl, by decide +kernel, by decide +kernel⟩
structure Bl (mg : Str → Option Value) : Prop where
  isi : mg "isinstance" = none
  len : mg "len" = none
  all : mg "all" = none
  int : mg "int" = none
  range : mg "range" = none
  zip : mg "zip" = none
  sum : mg "sum" = none
  list : mg "list" = none
  tuple : mg "tuple" = none
  enum : mg "enumerate" = none
  repr : mg "repr" = none
  str : mg "str" = none
  abs : mg "abs" = none
  bool : mg "bool" = none
def tyN : PyData → String
  | .none => "NoneType"
  | .bool _ => "bool"
  | .int _ => "int"
  | .str _ => "str"
  | .list _ => "list"
  | .tuple _ => "tuple"
  | .dict _ => "dict"
def isaT (t T : String) : Bool := t == T || (t == "bool" && T == "int")
theorem dp_ty {K : PySem.W.Frag} {H : Hp} {v : V} {d : PyData} (h : Dp K H v d) : TyX K H v (.type (tyN d)) := by
  cases h with
  | non => exact .base .non
  | bl b => exact .base (.bl b)
  | int i => exact .base (.int i)
  | str x => exact .base (.str x)
  | lst hs _ =>
    rcases hs with (h | ⟨o, h⟩) | ⟨o, its, n, h, hc, _⟩
    · exact .base (.lst h)
    · exact .base (.frz h)
    · exact .kList h hc
  | tup hs _ =>
    rcases hs with (h | ⟨o, h⟩) | ⟨o, its, n, h, hc, _⟩
    · exact .base (.tup h)
    · exact .fTuple h
    · exact .kTuple h hc
theorem kit_tab : ∀ t ∈ ["NoneType", "bool", "int", "str", "list", "tuple"], ∀ T ∈ ["bool", "int", "str", "list", "tuple"], kitB t T = some (isaT t T) := by decide +kernel
theorem tyN_mem {K : PySem.W.Frag} {H : Hp} {v : V} {d : PyData} (h : Dp K H v d) : tyN d ∈ ["NoneType", "bool", "int", "str", "list", "tuple"] := by
  cases h <;> simp [tyN]
theorem kit_dp {K : PySem.W.Frag} {H : Hp} {v : V} {d : PyData} {T : String} (h : Dp K H v d) (hT : T ∈ ["bool", "int", "str", "list", "tuple"] := by simp) : PySem.W.kitOne K (.type (tyN d)) (.type T) = some (isaT (tyN d) T) :=
  kit_ty (kit_tab _ (tyN_mem h) _ hT)
def isSeq : PyData → Bool
  | .list _ => true
  | .tuple _ => true
  | _ => false
theorem cls2 {K : PySem.W.Frag} : Paired ClsV [V.ty "list", V.ty "tuple"] [Value.type "list", Value.type "tuple"] := .cons (.ty _) (.cons (.ty _) .nil)
theorem kit_seq {K : PySem.W.Frag} {H : Hp} {v : V} {d : PyData} (h : Dp K H v d) : PySem.W.kitAny K (.type (tyN d)) [.type "list", .type "tuple"] = some (isSeq d) := by
  refine kitAny_cons (b := isaT (tyN d) "list") (kit_dp h) (fun e1 => ?_) (fun e1 => ?_)
  · refine kitAny_cons (b := isaT (tyN d) "tuple") (kit_dp h) (fun e2 => ?_) (fun e2 => ?_)
    · rw [kitAny_nil]
      cases h <;> first | rfl | (exfalso; revert e1; simp [isaT, tyN]; done) | (exfalso; revert e2; simp [isaT, tyN]; done)
    · cases h <;> first | rfl | (exfalso; revert e2; simp [isaT, tyN]; done)
  · cases h <;> first | rfl | (exfalso; revert e1; simp [isaT, tyN]; done)
def isNum : PyData → Bool
  | .int _ => true
  | _ => false
theorem isNum_eq (d : PyData) : isNum d = (isaT (tyN d) "int" && !isaT (tyN d) "bool") := by cases d <;> rfl
def inR (d : PyData) (lo hi : Int) : Bool := match d with
  | .int i => decide (lo ≤ i) && decide (i ≤ hi)
  | _ => false
section
variable {P : Program} {w : World} {K : PySem.W.Frag} {mg : Str → Option Value} {base : Heap}
def spIsNumber (K : PySem.W.Frag) : Sp := fun vs H Q _ => ∃ (v : V) (d : PyData), vs = [v] ∧ Dp K H v d ∧ Q (.bl (isNum d)) H
theorem k_is_number (R : Raw K mg "is_number" s_is_number) (B : Bl mg) : Known P w K mg base "is_number" 1 ["value"] (spIsNumber K) := by
  refine known R sc_is_number (fun _ _ _ _ _ _ us hl => match us, hl with | [_], _ => rfl) (fun vs H Q E h => by obtain ⟨_, _, rfl, _⟩ := h; rfl) (fun f cdv A outer s H vs Q E hr h => ?_)
  obtain ⟨v, d, rfl, hd, q⟩ := h
  refine ⟨_, pss_one (ps_ret (pe_and (pe_callB call_isi (by rfl) B.isi (by decide +kernel) (pa_cons (pv 0) (pa_cons (pe_bltn (v := .ty "int") (by rfl) B.int (by decide +kernel) rfl) pa_nil)))
    (pe_one (pe_not (pe_callB call_isi (by rfl) B.isi (by decide +kernel) (pa_cons (pv 0) (pa_cons (pe_bltn (v := .ty "bool") (by rfl) B.bool (by decide +kernel) rfl) pa_nil))))))), ?_⟩
  refine ⟨_, rfl, v, .ty "int", _, _, _, rfl, .ty _, dp_ty hd, kit_dp hd, _, rfl, ?_⟩
  rw [isNum_eq] at q
  cases h1 : isaT (tyN d) "int" with
  | false =>
    rw [h1] at q
    exact iteF q
  | true =>
    rw [h1] at q
    exact iteT ⟨_, rfl, v, .ty "bool", _, _, _, rfl, .ty _, dp_ty hd, kit_dp hd, _, rfl, q⟩
def spIsWithin (K : PySem.W.Frag) : Sp := fun vs H Q _ => ∃ (v : V) (d : PyData) (lo hi : Int), vs = [v, .int lo, .int hi] ∧ Dp K H v d ∧ Q (.bl (inR d lo hi)) H
theorem k_is_within (R : Raw K mg "is_within" s_is_within) (F1 : Known P w K mg base "is_number" 1 ["value"] (spIsNumber K)) : Known P w K mg base "is_within" 2 ["value", "low", "high"] (spIsWithin K) := by
  refine known R sc_is_within (fun _ _ _ _ _ _ us hl => match us, hl with | [_, _, _], _ => rfl) (fun vs H Q E h => by obtain ⟨_, _, _, _, rfl, _⟩ := h; rfl) (fun f cdv A outer s H vs Q E hr h => ?_)
  obtain ⟨v, d, lo, hi, rfl, hd, q⟩ := h
  refine ⟨_, pss_one (ps_ret (pe_and (pk F1 hr (by rfl) (pa_cons (pv 0) pa_nil)) (pe_one (pe_chain op_le op_le (pv 1) (pv 0) (pv 2))))), ?_⟩
  refine ⟨_, rfl, v, d, rfl, hd, _, rfl, ?_⟩
  cases hd with
  | int i =>
    refine iteT ⟨_, rfl, _, rfl, _, _, rfl, rfl, _, rfl, ?_⟩
    by_cases h1 : lo ≤ i
    · rw [decide_eq_true h1]
      refine iteT ⟨_, rfl, _, _, rfl, rfl, ?_⟩
      have e : inR (.int i) lo hi = decide (i ≤ hi) := by
        show (decide (lo ≤ i) && decide (i ≤ hi)) = _
        rw [decide_eq_true h1, Bool.true_and]
      rw [e] at q
      exact q
    · rw [decide_eq_false h1]
      refine iteF ?_
      have e : inR (.int i) lo hi = false := by
        show (decide (lo ≤ i) && decide (i ≤ hi)) = _
        rw [decide_eq_false h1, Bool.false_and]
      rw [e] at q
      exact q
  | _ => exact iteF q
def spIsList (K : PySem.W.Frag) : Sp := fun vs H Q _ => ∃ (v : V) (d : PyData), vs = [v] ∧ Dp K H v d ∧ ∀ H', Same H H' → Q (.bl (isSeq d)) H'
theorem k_is_list (R : Raw K mg "is_list" s_is_list) (B : Bl mg) : Known P w K mg base "is_list" 1 ["value"] (spIsList K) := by
  refine known R sc_is_list (fun _ _ _ _ _ _ us hl => match us, hl with | [_], _ => rfl) (fun vs H Q E h => by obtain ⟨_, _, rfl, _⟩ := h; rfl) (fun f cdv A outer s H vs Q E hr h => ?_)
  obtain ⟨v, d, rfl, hd, q⟩ := h
  refine ⟨_, pss_one (ps_ret (pe_callB call_isiT (by rfl) B.isi (by decide +kernel) (pa_cons (pv 0) (pa_cons (pe_tup (pa_cons (pe_bltn (v := .ty "list") (by rfl) B.list (by decide +kernel) rfl) (pa_cons (pe_bltn (v := .ty "tuple") (by rfl) B.tuple (by decide +kernel) rfl) pa_nil))) pa_nil)))), ?_⟩
  refine ⟨_, rfl, (by show 2 ≤ sizeLine; decide), fun p hp => ?_⟩
  have e : Same H (upd H p (.tup [.ty "list", .ty "tuple"])) := (Same.refl H).new hp
  have hd' := sm e hd
  exact ⟨v, p, _, _, _, _, rfl, upd_same, cls2 (K := K), dp_ty hd', kit_seq hd', q _ e⟩
def spIsFigure (K : PySem.W.Frag) : Sp := fun vs H Q _ => ∃ (p : Nat) (v : V) (d : PyData), vs = [.int p, v] ∧ Dp K H v d ∧ Q (.bl (inR d 0 (p - 1))) H
theorem k_is_figure (R : Raw K mg "is_figure" s_is_figure) (F1 : Known P w K mg base "is_within" 2 ["value", "low", "high"] (spIsWithin K)) : Known P w K mg base "is_figure" 3 ["prime", "value"] (spIsFigure K) := by
  refine known R sc_is_figure (fun _ _ _ _ _ _ us hl => match us, hl with | [_, _], _ => rfl) (fun vs H Q E h => by obtain ⟨_, _, _, rfl, _⟩ := h; rfl) (fun f cdv A outer s H vs Q E hr h => ?_)
  obtain ⟨p, v, d, rfl, hd, q⟩ := h
  refine ⟨_, pss_one (ps_ret (pk F1 hr (by rfl) (pa_cons (pv 1) (pa_cons pe_int (pa_cons (pe_op op_sub (pv 0) pe_int) pa_nil))))), ?_⟩
  exact ⟨_, rfl, _, rfl, _, _, rfl, rfl, v, d, _, _, rfl, hd, q⟩
end
end L2.K55
namespace L2.K55
open PySem PySem.Spec PyProof.Rows
theorem n_sp : ¬ (("own_states" : Str) = "own_prime") := by decide +kernel
theorem n_tp : ¬ (("own_start" : Str) = "own_prime") := by decide +kernel
theorem n_ts : ¬ (("own_start" : Str) = "own_states") := by decide +kernel
def tf (p : Nat) (l : Addr) (s : Nat) : List (Str × V) := putF "own_start" (.int s) (putF "own_states" (.ref l) (putF "own_prime" (.int p) []))
theorem tf_p (p : Nat) (l : Addr) (s : Nat) : (tf p l s).lookup ("own_prime" : Str) = some (.int p) := by
  unfold tf
  rw [lookup_putF, if_neg (fun e => n_tp e.symm), lookup_putF, if_neg (fun e => n_sp e.symm), lookup_putF, if_pos rfl]
theorem tf_l (p : Nat) (l : Addr) (s : Nat) : (tf p l s).lookup ("own_states" : Str) = some (.ref l) := by
  unfold tf
  rw [lookup_putF, if_neg (fun e => n_ts e.symm), lookup_putF, if_pos rfl]
theorem tf_s (p : Nat) (l : Addr) (s : Nat) : (tf p l s).lookup ("own_start" : Str) = some (.int s) := by
  unfold tf
  rw [lookup_putF, if_pos rfl]
theorem tf_no (p : Nat) (l : Addr) (s : Nat) {m : Str} (h1 : ¬ m = "own_start") (h2 : ¬ m = "own_states") (h3 : ¬ m = "own_prime") : (tf p l s).lookup m = none := by
  unfold tf
  rw [lookup_putF, if_neg h1, lookup_putF, if_neg h2, lookup_putF, if_neg h3]
  rfl
structure TF (K : PySem.W.Frag) (mg : Str → Option Value) (C : Addr) : Prop where
  cl : Cls K C
  nP : NoAttr K C "own_prime"
  nS : NoAttr K C "own_states"
  nT : NoAttr K C "own_start"
  mgC : mg "Turner" = some (.ref C)
def TurnerAt (K : PySem.W.Frag) (C : Addr) (H : Hp) (x : Addr) (m : Mc) : Prop := ∃ dx l xs, H x = some (.ins C dx (tf m.p l m.start)) ∧ SqL K H l xs ∧ DpAll K H xs (m.rows.map dRow) ∧ m.rows.length ≤ 240
theorem TurnerAt.same {K : PySem.W.Frag} {C : Addr} {H H' : Hp} {x : Addr} {m : Mc} (h : TurnerAt K C H x m) (e : Same H H') : TurnerAt K C H' x m := by
  obtain ⟨dx, l, xs, h1, h2, h3, h4⟩ := h
  exact ⟨dx, l, xs, e _ _ h1, e.seq h2, sma e h3, h4⟩
section
variable {P : Program} {w : World} {K : PySem.W.Frag} {mg : Str → Option Value} {base : Heap} {C : Addr}
def spTInt (K : PySem.W.Frag) (C : Addr) (f : Mc → Nat) : Sp := fun vs H Q _ => ∃ (x : Addr) (m : Mc), vs = [.ref x] ∧ TurnerAt K C H x m ∧ Q (.int (f m)) H
abbrev spTPrime (K : PySem.W.Frag) (C : Addr) : Sp := spTInt K C fun m => m.p
abbrev spTStart (K : PySem.W.Frag) (C : Addr) : Sp := spTInt K C fun m => m.start
abbrev spTLen (K : PySem.W.Frag) (C : Addr) : Sp := fun vs H Q _ => ∃ (x : Addr) (m : Mc), vs = [.ref x] ∧ TurnerAt K C H x m ∧ Q (.int (m.rows.length : Nat)) H
theorem k_prime (R : RawP K C "prime" "Turner.prime" s_Turner_prime) (T : TF K mg C) : KnownP P w K mg base C "prime" 1 (spTPrime K C) := by
  refine knownP R sc_Turner_prime (fun _ _ _ _ _ _ us hl => match us, hl with | [_], _ => rfl) (fun vs H Q E h => by obtain ⟨_, _, rfl, _⟩ := h; rfl) (fun f cdv A outer s H vs Q E hr h => ?_)
  obtain ⟨x, m, rfl, ⟨dx, l, xs, h1, h2, h3, h4⟩, q⟩ := h
  refine ⟨_, pss_one (ps_ret (pe_fld (pv 0) rfl)), ?_⟩
  exact ⟨_, rfl, x, C, dx, _, _, rfl, h1, T.cl, T.nP, tf_p _ _ _, q⟩
theorem k_start (R : RawP K C "start" "Turner.start" s_Turner_start) (T : TF K mg C) : KnownP P w K mg base C "start" 1 (spTStart K C) := by
  refine knownP R sc_Turner_start (fun _ _ _ _ _ _ us hl => match us, hl with | [_], _ => rfl) (fun vs H Q E h => by obtain ⟨_, _, rfl, _⟩ := h; rfl) (fun f cdv A outer s H vs Q E hr h => ?_)
  obtain ⟨x, m, rfl, ⟨dx, l, xs, h1, h2, h3, h4⟩, q⟩ := h
  refine ⟨_, pss_one (ps_ret (pe_fld (pv 0) rfl)), ?_⟩
  exact ⟨_, rfl, x, C, dx, _, _, rfl, h1, T.cl, T.nT, tf_s _ _ _, q⟩
theorem k_tlen (R : RawM K C "__len__" "Turner.__len__" s_Turner_len) (T : TF K mg C) (B : Bl mg) : KnownM P w K mg base C "__len__" 1 ["self"] (spTLen K C) := by
  refine knownM R sc_Turner_len (fun _ _ _ _ _ _ us hl => match us, hl with | [_], _ => rfl) (fun vs H Q E h => by obtain ⟨_, _, rfl, _⟩ := h; rfl) (fun f cdv A outer s H vs Q E hr h => ?_)
  obtain ⟨x, m, rfl, ⟨dx, l, xs, h1, h2, h3, h4⟩, q⟩ := h
  refine ⟨_, pss_one (ps_ret (pe_callB call_len_seq (by rfl) B.len PySem.boot_len (pa_cons (pe_fld (pv 0) rfl) pa_nil))), ?_⟩
  refine ⟨_, rfl, x, C, dx, _, _, rfl, h1, T.cl, T.nS, tf_l _ _ _, l, _, rfl, .inl h2, ?_⟩
  rw [rows_len h3]
  exact q
def spTStates (K : PySem.W.Frag) (C : Addr) : Sp := fun vs H Q _ => ∃ (x : Addr) (m : Mc), vs = [.ref x] ∧ TurnerAt K C H x m ∧
  ∀ (l : Addr) (xs : List V) (H' : Hp), H l = none → Same H H' → H' l = some (.lst xs) → DpAll K H xs (m.rows.map dRow) → Q (.ref l) H'
theorem k_states (R : RawM K C "states" "Turner.states" s_Turner_states) (T : TF K mg C) (B : Bl mg) : KnownM P w K mg base C "states" 1 ["self"] (spTStates K C) := by
  refine knownM R sc_Turner_states (fun _ _ _ _ _ _ us hl => match us, hl with | [_], _ => rfl) (fun vs H Q E h => by obtain ⟨_, _, rfl, _⟩ := h; rfl) (fun f cdv A outer s H vs Q E hr h => ?_)
  obtain ⟨x, m, rfl, ⟨dx, l, xs, h1, h2, h3, h4⟩, q⟩ := h
  refine ⟨_, pss_one (ps_ret (pe_callTy call_list_of (by rfl) B.list (by decide +kernel) (pa_cons (pe_fld (pv 0) rfl) pa_nil))), ?_⟩
  refine ⟨_, rfl, x, C, dx, _, _, rfl, h1, T.cl, T.nS, tf_l _ _ _, l, _, rfl, .inl h2, fun p hp => ?_⟩
  exact q p xs _ hp ((Same.refl H).new hp) upd_same h3
def oD : Option (List Int) → PyData
  | none => .none
  | some ns => dI ns
def spAre (K : PySem.W.Frag) (C : Addr) : Sp := fun vs H Q _ => ∃ (x : Addr) (m : Mc) (v : V) (o : Option (List Int)), vs = [.ref x, v] ∧ TurnerAt K C H x m ∧ Dp K H v (oD o) ∧ (∀ ns, o = some ns → ns.length ≤ 100000) ∧ ∀ H', Same H H' → Q (.bl (areC m o)) H'
theorem k_are (R : Raw K mg "are_counts" s_are_counts) (B : Bl mg) (T : TF K mg C) (F1 : Known P w K mg base "is_list" 1 ["value"] (spIsList K)) (F2 : Known P w K mg base "is_figure" 3 ["prime", "value"] (spIsFigure K))
    (F3 : KnownP P w K mg base C "prime" 1 (spTPrime K C)) (F4 : KnownM P w K mg base C "__len__" 1 ["self"] (spTLen K C)) : Known P w K mg base "are_counts" 4 ["turner", "value"] (spAre K C) := by
  refine known R sc_are_counts (fun _ _ _ _ _ _ us hl => match us, hl with | [_, _], _ => rfl) (fun vs H Q E h => by obtain ⟨_, _, _, _, rfl, _⟩ := h; rfl) (fun f cdv A outer s H vs Q E hr h => ?_)
  obtain ⟨x, m, v, o, rfl, hT, hv, hlen, q⟩ := h
  refine ⟨_, pss_one (ps_ret (pe_and (pk (F1.mono (by decide : 1 ≤ 3)) hr (by rfl) (pa_cons (pv 1) pa_nil)) (pe_and (pe_cmpR op_eq (pe_callB call_len_seq (by rfl) B.len PySem.boot_len (pa_cons (pv 1) pa_nil))
      (pe_callB (call_lenK F4 (hr.mono (by decide))) (by rfl) B.len PySem.boot_len (pa_cons (pv 0) pa_nil)) (nomark _))
    (pe_one (pe_callB (cr_all rfl) (by rfl) B.all (by decide +kernel) (pa_cons
      (pe_lc (own := [("one", 2)]) (g := gName 2) (tt := tYes) rfl sc_are_counts.nd (pi_list (pv 1)) (blkOk_by (N := N_are_counts) (sc := defScope s_are_counts) (by decide +kernel)) (fun _ _ _ _ _ => pg_name (i := 2) sc_are_counts.nd rfl (Or.inl rfl)) (fun _ _ _ _ _ => pts_nil)
        (fun _ _ _ _ _ => pk F2 hr (by rfl) (pa_cons (pkp (pv 0) T.cl F3 (hr.mono (by decide))) (pa_cons (pv 2) pa_nil)))) pa_nil)))))), ?_⟩
  refine ⟨_, rfl, v, _, rfl, hv, fun H1 e1 => ⟨_, rfl, ?_⟩⟩
  cases o with
  | none => exact iteF (q _ e1)
  | some ns =>
    refine iteT ?_
    obtain ⟨a, rfl, ha⟩ := dI_un hv
    have hT1 := hT.same e1
    obtain ⟨dx, l, xs, h1, h2, h3, h4⟩ := id hT1
    refine ⟨_, rfl, a, _, rfl, .inl (e1.seq ha), _, rfl, x, dx, _, rfl, h1, x, m, rfl, hT1, ⟨_, rfl, by omega⟩, rfl, _, rfl, ?_⟩
    by_cases hL : ns.length = m.rows.length
    · have ed : decide (V.int ((ns.map V.int).length : Nat) = V.int (m.rows.length : Nat)) = true := decide_eq_true (by rw [List.length_map, hL])
      rw [ed]
      refine iteT ⟨_, rfl, a, rfl, ⟨_, e1.seq ha⟩, fun D hD => lc_ys walk_list sameAt hD (by rw [List.length_map]; exact hlen ns rfl) (ns.map fun i => V.bl (decide (0 ≤ i) && decide (i ≤ (m.p : Int) - 1))) (by simp) (fun H e => e.seq (e1.seq ha))
        (fun i y z H3 H4 hz e2 hy Q' hq => ?_) fun H3 e2 hD2 => ⟨D, ns.map (fun i => decide (0 ≤ i) && decide (i ≤ (m.p : Int) - 1)), rfl, SqL.of (by rw [hD2, List.map_map]; rfl), ?_⟩⟩
      · obtain ⟨rfl, hy⟩ := hy
        obtain ⟨c, hc, rfl⟩ : ∃ c, ns[i]? = some c ∧ z = V.bl (decide (0 ≤ c) && decide (c ≤ (m.p : Int) - 1)) := by
          rw [List.getElem?_map] at hz
          cases e : ns[i]? with
          | none => rw [e] at hz; cases hz
          | some c => rw [e] at hz; exact ⟨c, rfl, (Option.some.inj hz).symm⟩
        rw [List.getElem?_map, hc] at hy
        cases hy
        obtain ⟨dx', l', xs', k1, k2, k3, k4⟩ := hT1.same e2
        refine ⟨rfl, _, rfl, x, dx', _, rfl, k1, x, m, rfl, ⟨dx', l', xs', k1, k2, k3, k4⟩, _, rfl, m.p, _, _, rfl, .int c, hq _ (Same.refl _)⟩
      · have e3 : areC m (some ns) = (ns.map fun i => decide (0 ≤ i) && decide (i ≤ (m.p : Int) - 1)).all id := by
          show (decide (ns.length = m.rows.length) && _) = _
          rw [decide_eq_true hL, Bool.true_and, List.all_map]
          congr 1
          funext i
          show _ = (decide (0 ≤ i) && decide (i ≤ (m.p : Int) - 1))
          congr 1
          exact decide_eq_decide.mpr (by omega)
        rw [← e3]
        exact q _ ((e1.trans e2).trans hide_same)
    · have ed : decide (V.int ((ns.map V.int).length : Nat) = V.int (m.rows.length : Nat)) = false := decide_eq_false (by
        rw [List.length_map]
        intro e
        injection e with e
        exact hL (by omega))
      rw [ed]
      have e3 : areC m (some ns) = false := by
        show (decide (ns.length = m.rows.length) && _) = _
        rw [decide_eq_false hL, Bool.false_and]
      rw [e3] at q
      exact iteF (q _ e1)
end
end L2.K55
namespace L2.K55
open PySem PySem.Spec PyProof.Rows
theorem ns_get {α : Type} {f : α → V} {ns : List α} {i : Nat} {z : V} (hz : (ns.map f)[i]? = some z) : ∃ c, ns[i]? = some c ∧ z = f c := by
  rw [List.getElem?_map] at hz
  cases e : ns[i]? with
  | none => rw [e] at hz; cases hz
  | some c => rw [e] at hz; exact ⟨c, rfl, (Option.some.inj hz).symm⟩
theorem areC_len {m : Mc} {ns : List Int} (h : areC m (some ns) = true) : ns.length = m.rows.length := by
  unfold areC at h
  rw [Bool.and_eq_true] at h
  exact of_decide_eq_true h.1
structure CArgs (K : PySem.W.Frag) (C : Addr) (H : Hp) (x : Addr) (m : Mc) (v : V) (ns : List Int) : Prop where
  t : TurnerAt K C H x m
  wf : WF m
  d : Dp K H v (dI ns)
  ok : areC m (some ns) = true
theorem CArgs.same {K : PySem.W.Frag} {C : Addr} {H H' : Hp} {x : Addr} {m : Mc} {v : V} {ns : List Int} (h : CArgs K C H x m v ns) (e : Same H H') : CArgs K C H' x m v ns := ⟨h.t.same e, h.wf, sm e h.d, h.ok⟩
theorem CArgs.len {K : PySem.W.Frag} {C : Addr} {H : Hp} {x : Addr} {m : Mc} {v : V} {ns : List Int} (h : CArgs K C H x m v ns) : ns.length = m.rows.length := areC_len h.ok
theorem hide_tup {K : PySem.W.Frag} {H : Hp} {D a : Addr} {xs ys : List V} (h : H D = some (.lst xs)) (t : SqT K H a ys) : SqT K (hide D H) a ys := by
  have key : ∀ o, H a = some o → (∀ zs, o ≠ .lst zs) → hide D H a = some o := fun o ho hn => by
    rw [hide_ne (fun e => by rw [e, h] at ho; exact hn _ (Option.some.inj ho).symm)]
    exact ho
  rcases t with (t | ⟨o, t⟩) | t
  · exact .inl (.inl (key _ t fun _ q => by cases q))
  · exact .inl (.inr ⟨o, key _ t fun _ q => by cases q⟩)
  · exact .inr t
theorem hide_lst {K : PySem.W.Frag} {H : Hp} {D a : Addr} {ys : List V} (h : a ≠ D) (t : SqL K H a ys) : SqL K (hide D H) a ys := by
  rcases t with (t | ⟨o, t⟩) | t
  · exact .inl (.inl (by rw [hide_ne h]; exact t))
  · exact .inl (.inr ⟨o, by rw [hide_ne h]; exact t⟩)
  · exact .inr t
theorem ixN_nat {n j : Nat} (h : j < n) : ixN n (j : Int) = some j := by
  unfold ixN
  rw [if_pos (by omega), if_pos (by omega), Int.toNat_natCast]
theorem getD_at {l : List Int} {j : Nat} (h : j < l.length) : (l.map V.int)[j]? = some (V.int (l.getD j 0)) := by
  rw [List.getElem?_map, List.getD_eq_getElem?_getD, List.getElem?_eq_getElem h]
  rfl
section
variable {P : Program} {w : World} {K : PySem.W.Frag} {mg : Str → Option Value} {base : Heap} {C : Addr}
def spNeed (K : PySem.W.Frag) (C : Addr) : Sp := fun vs H Q _ => ∃ (x : Addr) (m : Mc) (v : V) (ns : List Int), vs = [.ref x, v] ∧ CArgs K C H x m v ns ∧ ∀ H', Same H H' → Q .non H'
theorem k_need (R : Raw K mg "need_counts" s_need_counts) (F1 : Known P w K mg base "are_counts" 4 ["turner", "value"] (spAre K C)) : Known P w K mg base "need_counts" 5 ["turner", "value"] (spNeed K C) := by
  refine known R sc_need_counts (fun _ _ _ _ _ _ us hl => match us, hl with | [_, _], _ => rfl) (fun vs H Q E h => by obtain ⟨_, _, _, _, rfl, _⟩ := h; rfl) (fun f cdv A outer s H vs Q E hr h => ?_)
  obtain ⟨x, m, v, ns, rfl, h, q⟩ := h
  refine ⟨_, pss_one (ps_if (pt_not (pt_val (pk F1 hr (by rfl) (pa_cons (pv 0) (pa_cons (pv 1) pa_nil))))) pss_never pss_nil), ?_⟩
  refine ⟨_, rfl, _, rfl, x, m, v, some ns, rfl, h.t, h.d, fun ns' e => ?_, fun H' e => ⟨_, rfl, ?_⟩⟩
  · cases e
    have h1 := h.len
    have h2 := h.wf.small
    omega
  · rw [h.ok]
    exact iteF (q H' e)
def spFirst (K : PySem.W.Frag) (C : Addr) : Sp := fun vs H Q _ => ∃ (x : Addr) (m : Mc), vs = [.ref x] ∧ TurnerAt K C H x m ∧ ∀ (l : Addr) (H' : Hp), H l = none → Same H H' → H' l = some (.lst ((cFirst m).map V.int)) → Q (.ref l) H'
theorem k_first (R : Raw K mg "first_counts" s_first_counts) (B : Bl mg) (T : TF K mg C) (F3 : KnownP P w K mg base C "start" 1 (spTStart K C)) (F4 : KnownM P w K mg base C "__len__" 1 ["self"] (spTLen K C)) :
    Known P w K mg base "first_counts" 3 ["turner"] (spFirst K C) := by
  refine known R sc_first_counts (fun _ _ _ _ _ _ us hl => match us, hl with | [_], _ => rfl) (fun vs H Q E h => by obtain ⟨_, _, rfl, _⟩ := h; rfl) (fun f cdv A outer s H vs Q E hr h => ?_)
  obtain ⟨x, m, rfl, hT, q⟩ := h
  refine ⟨_, pss_one (ps_ret (pe_lc (own := [("state", 1)]) (g := gName 1) (tt := tYes) rfl sc_first_counts.nd (pi_range1 (by rfl) B.range (pa_cons (pe_callB (call_lenK F4 (hr.mono (by decide))) (by rfl) B.len PySem.boot_len (pa_cons (pv 0) pa_nil)) pa_nil))
    (blkOk_by (N := N_first_counts) (sc := defScope s_first_counts) (by decide +kernel)) (fun _ _ _ _ _ => pg_name (i := 1) sc_first_counts.nd rfl (Or.inl rfl)) (fun _ _ _ _ _ => pts_nil)
    (fun _ _ _ _ _ => pe_callTy call_int1 (by rfl) B.int (by decide +kernel) (pa_cons (pe_cmpR op_eq (pv 1) (pkp (pv 0) T.cl F3 hr) (nomark _)) pa_nil)))), ?_⟩
  obtain ⟨dx, l, xs, h1, h2, h3, h4⟩ := id hT
  refine ⟨_, rfl, x, dx, _, rfl, h1, x, m, rfl, hT, ⟨_, rfl, by omega⟩, _, rfl, by omega, by omega, fun D hD => lc_ys walk_range sameFn hD (by simp; omega) ((cFirst m).map V.int) (by simp [cFirst]) (fun _ _ => trivial) (fun i y z H3 H4 hz e hy Q' hq => ?_) fun H' e hD2 => ?_⟩
  · obtain ⟨rfl, rfl⟩ := hy
    obtain ⟨c, hc, rfl⟩ := ns_get hz
    unfold cFirst at hc
    rw [List.getElem?_map] at hc
    have hi : i < m.rows.length := by
      rcases Nat.lt_or_ge i m.rows.length with h | h
      · exact h
      · rw [List.getElem?_eq_none (by rw [List.length_range]; exact h)] at hc; cases hc
    rw [List.getElem?_range hi] at hc
    cases hc
    obtain ⟨dx', l', xs', k1, k2, k3, k4⟩ := hT.same e
    refine ⟨rfl, _, rfl, _, rfl, x, dx', _, rfl, k1, x, m, rfl, ⟨dx', l', xs', k1, k2, k3, k4⟩, rfl, .inr ⟨_, rfl, ?_⟩⟩
    have e2 : (if decide (V.int (0 + (i : Int)) = V.int (m.start : Nat)) = true then (1 : Int) else 0) = if i = m.start then 1 else 0 := by
      by_cases hs : i = m.start
      · rw [if_pos hs, if_pos (decide_eq_true (by rw [hs]; simp))]
      · rw [if_neg hs, if_neg (by
          rw [decide_eq_true_iff]
          intro q
          injection q with q
          exact hs (by omega))]
    rw [e2]
    exact hq _ (Same.refl _)
  · exact q D H' hD (e.trans hide_same) hD2
def spNext (K : PySem.W.Frag) (C : Addr) : Sp := fun vs H Q _ => ∃ (x : Addr) (m : Mc) (v : V) (ns : List Int), vs = [.ref x, v] ∧ CArgs K C H x m v ns ∧
  ∀ (l : Addr) (H' : Hp), H l = none → Same H H' → H' l = some (.lst ((cNext m ns).map V.int)) → Q (.ref l) H'
theorem k_next (R : Raw K mg "next_counts" s_next_counts) (B : Bl mg) (T : TF K mg C) (F1 : Known P w K mg base "need_counts" 5 ["turner", "value"] (spNeed K C)) (F2 : KnownM P w K mg base C "states" 1 ["self"] (spTStates K C))
    (F3 : KnownP P w K mg base C "prime" 1 (spTPrime K C)) (F4 : KnownM P w K mg base C "__len__" 1 ["self"] (spTLen K C)) : Known P w K mg base "next_counts" 6 ["turner", "counts"] (spNext K C) := by
  refine known R sc_next_counts (fun _ _ _ _ _ _ us hl => match us, hl with | [_, _], _ => rfl) (fun vs H Q E h => by obtain ⟨_, _, _, _, rfl, _⟩ := h; rfl) (fun f cdv A outer s H vs Q E hr h => ?_)
  obtain ⟨x, m, v, ns, rfl, h, q⟩ := h
  have nd := sc_next_counts.nd
  refine ⟨_, pss_cons (ps_expr (pk F1 hr (by rfl) (pa_cons (pv 0) (pa_cons (pv 1) pa_nil))))
    (pss_cons (ps_set (i := 2) nd rfl (Or.inl rfl) (pe_op op_rep (pe_lst (pa_cons pe_int pa_nil)) (pe_callB (call_lenK F4 (hr.mono (by decide))) (by rfl) B.len PySem.boot_len (pa_cons (pv 0) pa_nil))))
    (pss_cons (ps_for PassesOwn.never rfl (pi_zip (by rfl) B.zip (pa_cons (pkm0 (pv 0) T.cl F2 (hr.mono (by decide))) (pa_cons (pv 1) pa_nil)))
        (pg_tup rfl (pgs_cons (pg_tup rfl (pgs_cons (pg_name (i := 3) nd rfl (.inl rfl)) (pgs_cons (pg_name (i := 4) nd rfl (.inl rfl)) pgs_nil))) (pgs_cons (pg_name (i := 5) nd rfl (.inl rfl)) pgs_nil)))
        (pss_one (ps_for PassesOwn.never rfl (pi_tup (pv 4)) (pg_name (i := 6) nd rfl (.inl rfl)) (pss_one (ps_augS (pv 2) (pv 6) get_list (pv 5) ip_add set_list)))))
    (pss_one (ps_ret (pe_lc (own := [("one", 7)]) (g := gName 7) (tt := tYes) rfl nd (pi_list (pv 2)) (blkOk_by (N := N_next_counts) (sc := defScope s_next_counts) (by decide +kernel)) (fun _ _ _ _ _ => pg_name (i := 7) nd rfl (Or.inl rfl)) (fun _ _ _ _ _ => pts_nil)
        (fun _ _ _ _ _ => pe_op op_mod (pv 7) (pkp (pv 0) T.cl F3 (hr.mono (by decide))))))))), ?_⟩
  refine ⟨_, rfl, _, rfl, x, m, v, ns, rfl, h, fun H1 e1 => ?_⟩
  have a1 := h.same e1
  obtain ⟨dx, lS, xsS, h1, h2, h3, h4⟩ := id a1.t
  refine ⟨by show 1 ≤ sizeLine; decide, fun p0 hp0 => ?_⟩
  have e2 : Same H1 (upd H1 p0 (.lst [.int 0])) := (Same.refl H1).new hp0
  have a2 := a1.same e2
  refine ⟨_, rfl, x, dx, _, rfl, e2 _ _ h1, x, m, rfl, a2.t, ⟨_, rfl, by omega⟩, p0, _, [.int 0], rfl, rfl, upd_same, by omega, by omega, by show 1 * _ ≤ _; rw [sizeLine_eq]; simp; omega, fun lf hlf => ?_⟩
  have elf : (List.replicate (((m.rows.length : Nat) : Int)).toNat [V.int 0]).flatten = (List.replicate m.rows.length (0 : Int)).map V.int := by
    rw [Int.toNat_natCast]
    have : ∀ k : Nat, (List.replicate k [V.int 0]).flatten = (List.replicate k (0 : Int)).map V.int := by
      intro k
      induction k with
      | zero => rfl
      | succ k ih => rw [List.replicate_succ, List.flatten_cons, ih, List.replicate_succ]; rfl
    exact this _
  rw [elf]
  generalize hH2 : upd H1 p0 (.lst [.int 0]) = H2 at *
  have e3 : Same H2 (upd H2 lf (.lst ((List.replicate m.rows.length (0 : Int)).map V.int))) := (Same.refl H2).new hlf
  obtain ⟨c, rfl, hc⟩ := dI_un a2.d
  refine ⟨_, rfl, x, dx, _, rfl, e3 _ _ (e2 _ _ h1), tf_no _ _ _ (by decide +kernel) (by decide +kernel) (by decide +kernel), x, m, rfl, (a2.same e3).t, fun l2 xs2 H4 hl2 e4 hH4 hd2' => ?_⟩
  have hd2 := sma e4 hd2'
  have e24 : Same H2 (hide lf H4) := (e3.trans e4).hide hlf
  have hl2f : l2 ≠ lf := fun e => by rw [e, upd_same] at hl2; cases hl2
  have hlf4 : H4 lf = some (.lst ((List.replicate m.rows.length (0 : Int)).map V.int)) := e4 _ _ upd_same
  have hns := a2.len
  have hxs2 := rows_len hd2
  have zl : (m.rows.zip ns).length = m.rows.length := by rw [List.length_zip]; omega
  refine ⟨_, rfl, l2, c, xs2, _, rfl, SqL.of hH4, e4.seq (e3.seq hc), for_it (walk_zip (xs := xs2) (ys := ns.map V.int) (n := m.rows.length) (by rw [List.length_map]; omega))
    (fun i σ H' => ∃ (o3 o4 o5 o6 : Option V), σ = [some (.ref x), some (.ref c), some (.ref lf), o3, o4, o5, o6, none] ∧ Same (hide lf H4) (hide lf H') ∧
      H' lf = some (.lst ((((m.rows.zip ns).take i).foldl (fun f rc => bump f rc.1.2 rc.2) (List.replicate m.rows.length (0 : Int))).map V.int)))
    ⟨_, _, _, _, rfl, Same.refl _, hlf4⟩ ?_ ?_ ?_⟩
  · rintro i σ H' _ ⟨o3, o4, o5, o6, rfl, e5, h5⟩
    exact ⟨(e5.trans hide_same).seq (hide_lst hl2f (SqL.of hH4)), ((e24.trans e5).trans hide_same).seq hc⟩
  · rintro i y σ H5 H6 hi ⟨o3, o4, o5, o6, rfl, e5, h5⟩ ⟨Tp, y1, y2, rfl, hTp, rfl, hy1, hy2⟩
    have hr0 : m.rows[i]? = some m.rows[i] := List.getElem?_eq_getElem hi
    generalize m.rows[i] = r at hr0
    obtain ⟨b, g, hb1, hb2, hb3⟩ := rows_at hd2 hr0
    have hb1' : some (V.ref b) = some y1 := hb1.symm.trans hy1
    cases hb1'
    obtain ⟨ct, hct, rfl⟩ := ns_get hy2
    have hzi : (m.rows.zip ns)[i]? = some (r, ct) := by rw [List.getElem?_zip_eq_some]; exact ⟨hr0, hct⟩
    have e6 : Same (hide lf H4) (hide lf (upd H5 Tp (.tup [.ref b, .int ct]))) := e5.trans (hide_hide ((Same.refl _).new hTp))
    have h6 : (upd H5 Tp (.tup [.ref b, .int ct])) lf = some (.lst ((((m.rows.zip ns).take i).foldl (fun f rc => bump f rc.1.2 rc.2) (List.replicate m.rows.length (0 : Int))).map V.int)) := (Same.refl _).new hTp _ _ h5
    have hb6 := Same.tup (e6.trans hide_same) (hide_tup hlf4 hb2)
    have hg6 := Same.tup (e6.trans hide_same) (hide_tup hlf4 hb3)
    have hf0 : (((m.rows.zip ns).take i).foldl (fun f rc => bump f rc.1.2 rc.2) (List.replicate m.rows.length (0 : Int))).length = m.rows.length := by
      have hh : ∀ (l : List ((Int × List Nat) × Int)) (f : List Int), (l.foldl (fun f rc => bump f rc.1.2 rc.2) f).length = f.length := by
        intro l
        induction l with
        | nil => intro f; rfl
        | cons a l ih => intro f; rw [List.foldl_cons, ih, bump_length]
      rw [hh, List.length_replicate]
    have hnx := foldl_take (fun f (rc : (Int × List Nat) × Int) => bump f rc.1.2 rc.2) (List.replicate m.rows.length (0 : Int)) hzi
    generalize (((m.rows.zip ns).take i).foldl (fun f rc => bump f rc.1.2 rc.2) (List.replicate m.rows.length (0 : Int))) = f0 at *
    refine ⟨Tp, _, rfl, SqT.of upd_same, rfl, _, _, rfl, b, _, rfl, hb6, rfl, _, _, rfl, _, _, rfl, rfl, _, _, rfl, rfl, ?_⟩
    refine ⟨_, rfl, g, rfl, ⟨_, hg6⟩, for_it (walk_tup (xs := goalsV r.2)) (fun j σ H' => ∃ (o6 : Option V), σ = [some (.ref x), some (.ref c), some (.ref lf), some (.int r.1), some (.ref g), some (.int ct), o6, none] ∧
      Same (hide lf H4) (hide lf H') ∧ H' lf = some (.lst (((r.2.take j).foldl (fun f g => f.set g (f.getD g 0 + ct)) f0).map V.int))) ⟨_, rfl, e6, h6⟩ ?_ ?_ ?_⟩
    · rintro j σ H' _ ⟨o6, rfl, e7, h7⟩
      exact Same.tup (e7.trans hide_same) (hide_tup hlf4 hb3)
    · rintro j y σ H7 H7' hj ⟨o6, rfl, e7, h7⟩ ⟨rfl, hy⟩
      obtain ⟨gj, hgj, rfl⟩ := ns_get hy
      have hgl : gj < m.rows.length := h.wf.goal r (List.mem_of_getElem? hr0) gj (List.mem_of_getElem? hgj)
      have hfl : ((r.2.take j).foldl (fun f g => f.set g (f.getD g 0 + ct)) f0).length = m.rows.length := (bump_length _ _ _).trans hf0
      have hf := foldl_take (fun (f : List Int) (g : Nat) => f.set g (f.getD g 0 + ct)) f0 hgj
      generalize ((r.2.take j).foldl (fun f g => f.set g (f.getD g 0 + ct)) f0) = f1 at *
      refine ⟨_, rfl, _, rfl, lf, _, _, _, rfl, rfl, SqL.of h7, by omega, getD_at (by rw [hfl, Int.toNat_natCast]; exact hgl), _, rfl, _, _, rfl, rfl, lf, _, _, gj, rfl, rfl, h7, ixN_nat (by rw [List.length_map, hfl]; exact hgl), ?_⟩
      refine ⟨_, rfl, e7.trans ?_, ?_⟩
      · exact fun a o q => by
          have hne : a ≠ lf := fun ab => by rw [ab, hide_at] at q; cases q
          rw [hide_ne hne] at q ⊢
          rw [upd_ne hne]
          exact q
      · rw [upd_same, hf, List.map_set, Int.toNat_natCast]
    · rintro σ H7 ⟨o6, rfl, e7, h7⟩
      refine ⟨_, _, _, _, rfl, e7, ?_⟩
      rw [h7, hnx]
      show some (HO.lst (((r.2.take (goalsV r.2).length).foldl _ f0).map V.int)) = _
      rw [List.take_of_length_le (by unfold goalsV; rw [List.length_map]; exact Nat.le_refl _)]
      rfl
  · rintro σ H5 ⟨o3, o4, o5, o6, rfl, e5, h5⟩
    rw [List.take_of_length_le (by omega)] at h5
    have hfin : Same H2 H5 := (e24.trans e5).trans hide_same
    have h5' : H5 lf = some (.lst ((cAcc m ns).map V.int)) := h5
    refine ⟨_, rfl, lf, rfl, ⟨_, SqL.of h5'⟩, fun D hD => lc_ys walk_list sameAt hD (by rw [List.length_map, cAcc_length]; omega) ((cNext m ns).map V.int) (by simp [cNext]) (fun H e => SqL.of (e _ _ h5')) (fun i y z H6 H7 hz e hy Q' hq => ?_) fun H' e hD2 => ?_⟩
    · obtain ⟨rfl, hy⟩ := hy
      obtain ⟨k, hk, rfl⟩ := ns_get hz
      obtain ⟨k0, hk0, rfl⟩ := ns_get hy
      have ek : k = k0 % (m.p : Int) := by
        unfold cNext at hk
        rw [List.getElem?_map, hk0] at hk
        exact (Option.some.inj hk).symm
      have aT := (a2.same (hfin.trans e)).t
      obtain ⟨dx', l', xs', k1, k2, k3, k4⟩ := id aT
      have hp : 0 < m.p := by rcases h.wf.prime with e | e | e | e <;> omega
      refine ⟨rfl, _, rfl, _, rfl, x, dx', _, rfl, k1, x, m, rfl, aT, _, _, rfl, rfl, by show (0 : Int) < (m.p : Int); omega, ?_⟩
      show Q' (V.int (k0 % (m.p : Int))) H7
      rw [← ek]
      exact hq _ (Same.refl _)
    · refine q D H' (Same.free (e1.trans (e2.trans hfin)) hD) ((e1.trans (e2.trans hfin)).trans (e.trans hide_same)) hD2
def spTotal (K : PySem.W.Frag) (C : Addr) : Sp := fun vs H Q _ => ∃ (x : Addr) (m : Mc) (v : V) (ns : List Int), vs = [.ref x, v] ∧ CArgs K C H x m v ns ∧ ∀ H', Same H H' → Q (.int (cTot m ns)) H'
theorem k_total (R : Raw K mg "turn_total" s_turn_total) (B : Bl mg) (T : TF K mg C) (F1 : Known P w K mg base "need_counts" 5 ["turner", "value"] (spNeed K C)) (F2 : KnownM P w K mg base C "states" 1 ["self"] (spTStates K C))
    (F3 : KnownP P w K mg base C "prime" 1 (spTPrime K C)) : Known P w K mg base "turn_total" 6 ["turner", "counts"] (spTotal K C) := by
  refine known R sc_turn_total (fun _ _ _ _ _ _ us hl => match us, hl with | [_, _], _ => rfl) (fun vs H Q E h => by obtain ⟨_, _, _, _, rfl, _⟩ := h; rfl) (fun f cdv A outer s H vs Q E hr h => ?_)
  obtain ⟨x, m, v, ns, rfl, h, q⟩ := h
  have nd := sc_turn_total.nd
  refine ⟨_, pss_cons (ps_expr (pk F1 hr (by rfl) (pa_cons (pv 0) (pa_cons (pv 1) pa_nil))))
    (pss_one (ps_ret (pe_op op_mod (pe_callB (cr_sum rfl) (by rfl) B.sum (by decide +kernel) (pa_cons
      (pe_lc (own := [("turn", 3), ("targets", 4), ("count", 2)]) (g := gTup K 2 (gCons (gTup K 2 (gCons (gName 3) (gCons (gName 4) gNil))) (gCons (gName 2) gNil))) (tt := tYes) rfl nd (pi_zip (by rfl) B.zip (pa_cons (pkm0 (pv 0) T.cl F2 (hr.mono (by decide))) (pa_cons (pv 1) pa_nil)))
        (blkOk_by (N := N_turn_total) (sc := defScope s_turn_total) (by decide +kernel))
        (fun _ _ _ _ _ => pg_tup rfl (pgs_cons (pg_tup rfl (pgs_cons (pg_name (i := 3) nd rfl (.inl rfl)) (pgs_cons (pg_name (i := 4) nd rfl (.inl rfl)) pgs_nil))) (pgs_cons (pg_name (i := 2) nd rfl (.inl rfl)) pgs_nil)))
        (fun _ _ _ _ _ => pts_nil) (fun _ _ _ _ _ => pe_op op_mul (pv 3) (pv 2))) pa_nil)) (pkp (pv 0) T.cl F3 (hr.mono (by decide)))))), ?_⟩
  refine ⟨_, rfl, _, rfl, x, m, v, ns, rfl, h, fun H1 e1 => ?_⟩
  have a1 := h.same e1
  obtain ⟨dx, lS, xsS, h1, h2, h3, h4⟩ := id a1.t
  obtain ⟨c, rfl, hc⟩ := dI_un a1.d
  refine ⟨_, rfl, x, dx, _, rfl, h1, tf_no _ _ _ (by decide +kernel) (by decide +kernel) (by decide +kernel), x, m, rfl, a1.t, fun l2 xs2 H4 hl2 e4 hH4 hd2' => ?_⟩
  have hd2 := sma e4 hd2'
  have hns := a1.len
  have hxs2 := rows_len hd2
  have zl : (m.rows.zip ns).length = m.rows.length := by rw [List.length_zip]; omega
  have hp : 0 < m.p := by rcases h.wf.prime with e | e | e | e <;> omega
  refine ⟨_, rfl, l2, c, xs2, _, rfl, SqL.of hH4, e4.seq hc, fun D hD => lc_ys (walk_zip (xs := xs2) (ys := ns.map V.int) (n := m.rows.length) (by rw [List.length_map]; omega)) samePair hD (by omega) (((m.rows.zip ns).map fun rc => rc.1.1 * rc.2).map V.int) (by rw [List.length_map, List.length_map]; exact zl)
    (fun H e => ⟨SqL.of (e _ _ hH4), e.seq (e4.seq hc)⟩) (fun i y z H6 H7 hz e hy Q' hq => ?_) fun H' e hD2 => ?_⟩
  · obtain ⟨Tp, y1, y2, rfl, hTp, rfl, hy1, hy2⟩ := hy
    obtain ⟨k, hk, rfl⟩ := ns_get hz
    rw [List.getElem?_map] at hk
    obtain ⟨⟨r, ct⟩, hzi, rfl⟩ : ∃ rc, (m.rows.zip ns)[i]? = some rc ∧ k = rc.1.1 * rc.2 := by
      cases e : (m.rows.zip ns)[i]? with
      | none => rw [e] at hk; cases hk
      | some c => rw [e] at hk; exact ⟨c, rfl, (Option.some.inj hk).symm⟩
    rw [List.getElem?_zip_eq_some] at hzi
    obtain ⟨b, g, hb1, hb2, hb3⟩ := rows_at hd2 hzi.1
    have hb1' : some (V.ref b) = some y1 := hb1.symm.trans hy1
    cases hb1'
    obtain ⟨ct', hct, rfl⟩ := ns_get hy2
    have hct' : some ct' = some ct := hct.symm.trans hzi.2
    cases hct'
    have e7 : Same H6 (upd H6 Tp (.tup [.ref b, .int ct])) := (Same.refl _).new hTp
    obtain ⟨t1, t2⟩ := h.wf.turn r (List.mem_of_getElem? hzi.1)
    have hp7 : m.p ≤ 7 := by rcases h.wf.prime with e | e | e | e <;> omega
    refine ⟨Tp, _, rfl, SqT.of upd_same, rfl, _, _, rfl, b, _, rfl, Same.tup (e.trans e7) hb2, rfl, _, _, rfl, _, _, rfl, rfl, _, _, rfl, rfl, rfl, ?_⟩
    exact ⟨_, rfl, _, rfl, _, _, rfl, rfl, .inl (show -(2 ^ 64) < r.1 ∧ r.1 < 2 ^ 64 from ⟨by omega, by omega⟩), hq _ (Same.refl _)⟩
  · have eA : Same H1 H' := e4.trans (e.trans hide_same)
    have aT := (a1.same eA).t
    obtain ⟨dx', l', xs', k1, k2, k3, k4⟩ := id aT
    refine ⟨D, _, rfl, SqL.of hD2, _, rfl, x, dx', _, rfl, k1, x, m, rfl, aT, _, _, rfl, rfl, by show (0 : Int) < (m.p : Int); omega, ?_⟩
    exact q H' (e1.trans eA)
end
end L2.K55
namespace L2.K55
open PySem PySem.Spec PyProof.Rows
theorem eqvAll_ints : ∀ a b : List Int, PyData.eqvAll (a.map PyData.int) (b.map PyData.int) = decide (a = b)
  | [], [] => by simp [PyData.eqvAll]
  | [], b :: bs => by simp [PyData.eqvAll]
  | a :: as, [] => by simp [PyData.eqvAll]
  | a :: as, b :: bs => by
    rw [List.map_cons, List.map_cons, PyData.eqvAll, PyData.eqv, eqvAll_ints as bs]
    by_cases h1 : a = b
    · by_cases h2 : as = bs <;> simp [h1, h2]
    · simp [h1]
theorem eqv_dI (a b : List Int) : PyData.eqv (dI a) (dI b) = decide (a = b) := by
  show PyData.eqv (.list (a.map PyData.int)) (.list (b.map PyData.int)) = _
  rw [PyData.eqv, eqvAll_ints]
theorem lay_ints : ∀ a : List Int, PyData.canLayAll0 (a.map PyData.int) = true
  | [] => by simp [PyData.canLayAll0]
  | a :: as => by simp [PyData.canLayAll0, PyData.canLay0, lay_ints as]
theorem depth_ints : ∀ a : List Int, PyData.depthAll (a.map PyData.int) = 0
  | [] => by simp [PyData.depthAll]
  | a :: as => by simp [PyData.depthAll, PyData.depth, depth_ints as]
theorem shaped_dI (a : List Int) : SeqAt.shaped (dI a) = true := by
  show (PyData.canLay0 (.list (a.map PyData.int)) && decide (PyData.depth (.list (a.map PyData.int)) ≤ 64)) = true
  rw [PyData.canLay0, PyData.depth, lay_ints, depth_ints]
  rfl
theorem cutV_from (xs : List V) (k : Nat) : cutV xs (some (k : Int)) none = xs.drop k := by
  unfold cutV
  rw [HT.sIx_nat, HT.sIx_none]
  rcases Nat.le_total k xs.length with h | h
  · rw [Nat.min_eq_left h, List.take_of_length_le (by rw [List.length_drop]; exact Nat.le_refl _)]
  · rw [Nat.min_eq_right h, List.drop_of_length_le h, List.drop_of_length_le (Nat.le_refl _)]
    simp
theorem nums_some (rs : List (List Int)) : nums (rs.map some) = rs := by
  induction rs with
  | nil => rfl
  | cons r rs ih => show r :: nums (rs.map some) = r :: rs; rw [ih]
section
variable {X : Cx} {K : PySem.W.Frag}
theorem op_eqK (hu : X.A.units + 64 < cLine) (hK : X.K = K := by rfl) : OpR X (compareOp .Eq) (rEqD K) := hK ▸ op_eqD hu
theorem op_neK (hu : X.A.units + 64 < cLine) (hK : X.K = K := by rfl) : OpR X (compareOp .NotEq) (rNeD K) := hK ▸ op_neD hu
theorem ixL (hK : X.K = K := by rfl) : IxR X (rIxL K) := hK ▸ ix_list
theorem ixT (hK : X.K = K := by rfl) : IxR X (rIxT K) := hK ▸ ix_tup
def rLenS (K : PySem.W.Frag) : List V → Hp → VK → Prop := fun xs H Q => ∃ p ys, xs = [.ref p] ∧ (SqL K H p ys ∨ SqT K H p ys) ∧ Q (.int ys.length) H
def rListS (K : PySem.W.Frag) : List V → Hp → VK → Prop := fun xs H Q => ∃ p ys, xs = [.ref p] ∧ (SqL K H p ys ∨ SqT K H p ys) ∧ ∀ l, H l = none → Q (.ref l) (upd H l (.lst ys))
theorem cLen (hK : X.K = K := by rfl) : CallR X (.builtin "len") (rLenS K) := hK ▸ call_len_seq
theorem cList (hK : X.K = K := by rfl) : CallR X (.type "list") (rListS K) := hK ▸ call_list_of
theorem cIsi (hK : X.K = K := by rfl) : CallR X (.builtin "isinstance") (rIsi K) := hK ▸ call_isi
theorem cIsiT (hK : X.K = K := by rfl) : CallR X (.builtin "isinstance") (rIsiT K) := hK ▸ call_isiT
end
theorem pe_never {X : Cx} {e : Expr} : PE X e (fun _ _ _ => False) := ⟨fun _ _ _ _ _ _ h => h.elim⟩
section
variable {P : Program} {w : World} {K : PySem.W.Frag} {mg : Str → Option Value} {base : Heap} {C : Addr}
def spChain (K : PySem.W.Frag) (C : Addr) : Sp := fun vs H Q _ => ∃ (x : Addr) (m : Mc) (v : V) (os : List (Option (List Int))), vs = [.ref x, v] ∧ TurnerAt K C H x m ∧ WF m ∧ Dp K H v (.list (os.map oD)) ∧
  os.length ≤ 1000 ∧ (∀ ns, some ns ∈ os → ns.length ≤ 100000) ∧ ∀ H', Same H H' → Q (.bl (chainP m os)) H'
theorem k_chain (R : Raw K mg "is_chain" s_is_chain) (B : Bl mg) (T : TF K mg C) (F1 : Known P w K mg base "is_list" 1 ["value"] (spIsList K)) (F2 : Known P w K mg base "are_counts" 4 ["turner", "value"] (spAre K C))
    (F3 : Known P w K mg base "first_counts" 3 ["turner"] (spFirst K C)) (F4 : Known P w K mg base "next_counts" 6 ["turner", "counts"] (spNext K C)) : Known P w K mg base "is_chain" 7 ["turner", "counts"] (spChain K C) := by
  refine known R sc_is_chain (fun _ _ _ _ _ _ us hl => match us, hl with | [_, _], _ => rfl) (fun vs H Q E h => by obtain ⟨_, _, _, _, rfl, _⟩ := h; rfl) (fun f cdv A outer s H vs Q E hr h => ?_)
  obtain ⟨x, m, v, os, rfl, hT, hwf, hv, hlen, hrow, q⟩ := h
  have nd := sc_is_chain.nd
  refine ⟨_, pss_cons (ps_if (PW.pt (pw_or (pt_not (pt_val (pk (F1.mono (by decide : 1 ≤ 6)) hr (by rfl) (pa_cons (pv 1) pa_nil))))
      (pw_or (pt_cmpR op_eq (pe_callB call_len_seq (by rfl) B.len PySem.boot_len (pa_cons (pv 1) pa_nil)) pe_int (nomark _))
      (pw_or1 (pt_not (pt_val (pe_callB (cr_all rfl) (by rfl) B.all (by decide +kernel) (pa_cons
        (pe_lc (own := [("one", 3)]) (g := gName 3) (tt := tYes) rfl nd (pi_list (pv 1)) (blkOk_by (N := N_is_chain) (sc := defScope s_is_chain) (by decide +kernel)) (fun _ _ _ _ _ => pg_name (i := 3) nd rfl (Or.inl rfl)) (fun _ _ _ _ _ => pts_nil)
          (fun _ _ _ _ _ => pk (F2.mono (by decide : 4 ≤ 6)) hr (by rfl) (pa_cons (pv 0) (pa_cons (pv 3) pa_nil)))) pa_nil)))))))) (pss_one (ps_ret pe_bl)) pss_nil)
    (pss_cons (ps_setLc (i := 2) (own := [("one", 3)]) (g := gName 3) (tt := tYes) rfl nd rfl rfl (sw_true rfl rfl rfl (by decide +kernel)) (pi_list (pv 1)) (blkOk_by (N := N_is_chain) (sc := defScope s_is_chain) (by decide +kernel))
        (fun _ _ _ _ _ => pg_name (i := 3) nd rfl (Or.inl rfl)) (fun _ _ _ _ _ => pts_nil) (fun _ _ _ _ _ => pe_callTy (cList (K := K)) (by rfl) B.list (by decide +kernel) (pa_cons (pv 3) pa_nil)))
    (pss_cons (ps_if (pt_cmpR (op_neD hr.units) (pe_ix ix_list (pv 2) pe_int (fun _ _ => rfl)) (pk (F3.mono (by decide : 3 ≤ 6)) hr (by rfl) (pa_cons (pv 0) pa_nil)) (nomark _)) (pss_one (ps_ret pe_bl)) pss_nil)
    (pss_one (ps_ret (pe_callB (cr_all rfl) (by rfl) B.all (by decide +kernel) (pa_cons
      (pe_lc (own := [("one", 3), ("later", 4)]) (g := gTup K 2 (gCons (gName 3) (gCons (gName 4) gNil))) (tt := tYes) rfl nd (pi_zip (by rfl) B.zip (pa_cons (pv 2) (pa_cons (pe_slice sl_list (pv 2) (po_some pe_int) po_none) pa_nil)))
        (blkOk_by (N := N_is_chain) (sc := defScope s_is_chain) (by decide +kernel)) (fun _ _ _ _ _ => pg_tup rfl (pgs_cons (pg_name (i := 3) nd rfl (.inl rfl)) (pgs_cons (pg_name (i := 4) nd rfl (.inl rfl)) pgs_nil)))
        (fun _ _ _ _ _ => pts_nil) (fun _ _ _ _ _ => pe_cmpR (op_eqK (K := K) hr.units) (pk F4 hr (by rfl) (pa_cons (pv 0) (pa_cons (pv 3) pa_nil))) (pv 4) (nomark _))) pa_nil)))))), ?_⟩
  obtain ⟨c, xs, rfl, hc, hda⟩ := dp_list hv
  have hxl : xs.length = os.length := by rw [dpa_len hda, List.length_map]
  refine ⟨_, rfl, .ref c, _, rfl, hv, fun H1 e1 => ⟨_, rfl, iteF ?_⟩⟩
  refine ⟨_, rfl, c, _, rfl, .inl (e1.seq hc), rfl, _, rfl, ?_⟩
  cases hos : os with
  | nil =>
    have ed : decide (V.int (xs.length : Nat) = V.int 0) = true := decide_eq_true (by rw [hxl, hos]; rfl)
    rw [ed]
    refine iteT (iteT ?_)
    have := q H1 e1
    rw [hos] at this
    exact this
  | cons o0 os0 =>
    have hne : os ≠ [] := by rw [hos]; exact fun h => by cases h
    have hemp : os.isEmpty = false := by rw [hos]; rfl
    have ed : decide (V.int (xs.length : Nat) = V.int 0) = false := decide_eq_false (by
      intro e
      injection e with e
      rw [hxl, hos] at e
      simp at e
      omega)
    rw [ed]
    refine iteF ?_
    refine ⟨_, rfl, c, rfl, ⟨_, e1.seq hc⟩, fun D hD => lc_ys (walk_list (xs := xs)) sameAt hD (by omega) ((os.map (areC m)).map V.bl) (by simp; omega) (fun H e => e.seq (e1.seq hc)) (fun i y z H3 H4 hz e hy Q' hq => ?_) fun H2 e2 hD2 => ⟨D, os.map (areC m), rfl, SqL.of hD2, _, rfl, ?_⟩⟩
    · obtain ⟨rfl, hy⟩ := hy
      obtain ⟨b, hb, rfl⟩ := ns_get hz
      rw [List.getElem?_map] at hb
      cases ho : os[i]? with
      | none => rw [ho] at hb; cases hb
      | some o =>
        rw [ho] at hb
        cases hb
        obtain ⟨y', hy', hd⟩ := dpa_get hda (i := i) (d := oD o) (by rw [List.getElem?_map, ho]; rfl)
        rw [hy] at hy'
        cases hy'
        refine ⟨rfl, _, rfl, _, rfl, x, m, y, o, rfl, (hT.same e1).same e, sm (e1.trans e) hd, fun ns hn => hrow ns (by rw [← hn]; exact List.mem_of_getElem? ho), fun H5 e5 => hq H5 e5⟩
    · have e02 : Same H H2 := e1.trans (e2.trans hide_same)
      have eall : (os.map (areC m)).all id = os.all (areC m) := by rw [List.all_map]; rfl
      rw [eall]
      have hch : chainP m os = (os.all (areC m) && (decide ((nums os).headD [] = cFirst m) && cSteps m (nums os))) := by
        unfold chainP
        rw [hemp]
        rfl
      cases ha : os.all (areC m) with
      | false =>
        have := q H2 e02
        rw [hch, ha] at this
        exact iteT this
      | true =>
        refine iteF ?_
        rw [ha, Bool.true_and] at hch
        obtain ⟨rs, rfl⟩ : ∃ rs : List (List Int), os = rs.map some := ⟨nums os, all_some ha⟩
        rw [nums_some] at hch
        have hrl : rs.length ≤ 1000 := by rw [List.length_map] at hlen; exact hlen
        have hxr : xs.length = rs.length := by rw [hxl, List.length_map]
        have hok : ∀ r ∈ rs, areC m (some r) = true := fun r hr => List.all_eq_true.mp ha (some r) (List.mem_map_of_mem hr)
        have hsmall := hwf.small
        refine ⟨_, rfl, c, rfl, ⟨_, e02.seq hc⟩, fun D1 hD1 => lc_gen (walk_list (xs := xs)) sameAt hD1 (by omega) (fun i v H => ∀ r, rs[i]? = some r → ∃ a, v = .ref a ∧ H a = some (.lst (r.map V.int))) (fun i v H H' e h r hr => by obtain ⟨a, h1, h2⟩ := h r hr; exact ⟨a, h1, e _ _ h2⟩)
          (fun H e => e.seq (e02.seq hc)) (fun i y H3 H4 hi e hDD hy Q' hq => ?_) fun H3 acc e3 hacc hal hR => ?_⟩
        · obtain ⟨rfl, hy⟩ := hy
          obtain ⟨accD, haccD⟩ := hDD
          have hri : rs[i]? = some rs[i] := List.getElem?_eq_getElem (by omega)
          obtain ⟨y', hy', hd⟩ := dpa_get hda (i := i) (d := dI rs[i]) (by rw [List.getElem?_map, List.getElem?_map, hri]; rfl)
          rw [hy] at hy'
          cases hy'
          obtain ⟨a, rfl, hsq⟩ := dI_un hd
          refine ⟨rfl, _, rfl, a, _, rfl, .inl ((e02.trans (e.trans hide_same)).seq hsq), fun l hl => hq _ _ ((Same.refl _).new hl) fun r hr => ?_⟩
          rw [hri] at hr
          cases hr
          refine ⟨l, rfl, ?_⟩
          rw [hide_ne (fun e => by rw [e, haccD] at hl; cases hl), upd_same]
        · have e03 : Same H H3 := e02.trans (e3.trans hide_same)
          have hrows : DpAll K H3 acc (rs.map dI) := dpa_of (by rw [hal, List.length_map]; omega) fun i v d h1 h2 => by
            rw [List.getElem?_map] at h2
            cases hri : rs[i]? with
            | none => rw [hri] at h2; cases h2
            | some r =>
              rw [hri] at h2
              cases h2
              obtain ⟨a, rfl, ha⟩ := hR i v h1 r hri
              exact dI_mk (SqL.of (hide_same _ _ ha))
          obtain ⟨r0, rs0, rfl⟩ : ∃ r0 rs0, rs = r0 :: rs0 := by
            cases rs with
            | nil => cases hos
            | cons a b => exact ⟨a, b, rfl⟩
          cases hrows with
          | @cons v0 vs0 d0 ds0 hv0 hvs0 =>
            refine ⟨_, rfl, D1, _, _, v0, rfl, rfl, SqL.of hacc, at_of (j := 0) rfl rfl, _, rfl, x, m, rfl, hT.same e03, fun lF H4 hlF e4 hH4 => ⟨dI r0, dI (cFirst m), sm e4 hv0, dI_mk (SqL.of hH4), shaped_dI _, shaped_dI _, _, rfl, ?_⟩⟩
            rw [eqv_dI]
            have e04 : Same H H4 := e03.trans e4
            have hhd : ((r0 :: rs0).headD [] : List Int) = r0 := rfl
            rw [hhd] at hch
            by_cases hf : r0 = cFirst m
            · rw [decide_eq_true hf] at hch ⊢
              refine iteF ?_
              rw [Bool.true_and] at hch
              refine ⟨_, rfl, _, rfl, _, rfl, D1, _, rfl, SqL.of (e4 _ _ hacc), fun lT hlT => ?_⟩
              have ecut : cutV (v0 :: vs0) (some (1 : Int)) none = vs0 := cutV_from (v0 :: vs0) 1
              have e5 : Same H4 (upd H4 lT (.lst vs0)) := (Same.refl H4).new hlT
              rw [ecut]
              have hvl : vs0.length = rs0.length := by
                have := dpa_len hvs0
                rw [List.length_map] at this
                exact this
              have hrows4 : DpAll K H4 (v0 :: vs0) ((r0 :: rs0).map dI) := sma e4 (.cons hv0 hvs0)
              refine ⟨D1, lT, v0 :: vs0, vs0, rfl, SqL.of (e5 _ _ (e4 _ _ hacc)), SqL.of upd_same, fun D2 hD2 => lc_ys (walk_zip (xs := v0 :: vs0) (ys := vs0) (n := rs0.length) (by rw [List.length_cons, hvl]; omega)) samePair hD2
                (by rw [List.length_cons] at hrl; omega) ((((r0 :: rs0).zip rs0).map fun ab => decide (cNext m ab.1 = ab.2)).map V.bl) (by rw [List.length_map, List.length_map, List.length_zip, List.length_cons]; omega) (fun H e => ⟨SqL.of (e _ _ (e5 _ _ (e4 _ _ hacc))), SqL.of (e _ _ upd_same)⟩) (fun i y z H5 H6 hz e hy Q' hq => ?_) fun H5 e5' hD5 => ⟨D2, _, rfl, SqL.of hD5, ?_⟩⟩
              · obtain ⟨Tp, y1, y2, rfl, hTp, rfl, hy1, hy2⟩ := hy
                obtain ⟨b, hb, rfl⟩ := ns_get hz
                rw [List.getElem?_map] at hb
                obtain ⟨⟨ra, rb⟩, hzi, rfl⟩ : ∃ ab, ((r0 :: rs0).zip rs0)[i]? = some ab ∧ b = decide (cNext m ab.1 = ab.2) := by
                  cases e : ((r0 :: rs0).zip rs0)[i]? with
                  | none => rw [e] at hb; cases hb
                  | some c => rw [e] at hb; exact ⟨c, rfl, (Option.some.inj hb).symm⟩
                rw [List.getElem?_zip_eq_some] at hzi
                have e7 : Same H5 (upd H5 Tp (.tup [y1, y2])) := (Same.refl _).new hTp
                have e47 : Same H4 (upd H5 Tp (.tup [y1, y2])) := e5.trans (e.trans e7)
                obtain ⟨y1', hy1', hd1⟩ := dpa_get hrows4 (i := i) (d := dI ra) (by rw [List.getElem?_map, hzi.1]; rfl)
                have q1 : some y1' = some y1 := hy1'.symm.trans hy1
                cases q1
                obtain ⟨y2', hy2', hd2⟩ := dpa_get (sma e4 hvs0) (i := i) (d := dI rb) (by rw [List.getElem?_map, hzi.2]; rfl)
                have q2 : some y2' = some y2 := hy2'.symm.trans hy2
                cases q2
                refine ⟨Tp, _, rfl, SqT.of upd_same, rfl, _, _, rfl, _, _, rfl, rfl, rfl, ?_⟩
                refine ⟨_, rfl, _, rfl, x, m, _, ra, rfl, ⟨hT.same (e04.trans e47), hwf, sm e47 hd1, hok ra (List.mem_of_getElem? hzi.1)⟩, fun lN H8 hlN e8 hH8 => ⟨_, rfl, dI (cNext m ra), dI rb, dI_mk (SqL.of hH8), sm (e47.trans e8) hd2, shaped_dI _, shaped_dI _, ?_⟩⟩
                rw [eqv_dI]
                exact hq H8 e8
              · have e08 : Same H H5 := e04.trans (e5.trans (e5'.trans hide_same))
                have := q H5 e08
                rw [hch] at this
                rw [List.all_map]
                exact this
            · rw [decide_eq_false hf] at hch ⊢
              refine iteT ?_
              have := q H4 e04
              rw [hch] at this
              exact this
end
end L2.K55
namespace L2.K55
open PySem PySem.Spec PyProof.Rows
def nw (H H' : Hp) : Hp := fun a => match H a with
  | none => H' a
  | some _ => none
theorem nw_of {H H' : Hp} {a : Addr} (h : H a = none) : nw H H' a = H' a := by
  unfold nw
  rw [h]
theorem nw_inv {H H' : Hp} {a : Addr} {o : HO} (h : nw H H' a = some o) : H a = none ∧ H' a = some o := by
  unfold nw at h
  cases e : H a with
  | none => rw [e] at h; exact ⟨rfl, h⟩
  | some u => rw [e] at h; cases h
theorem nw_same {H H' : Hp} : Same (nw H H') H' := fun a o h => (nw_inv h).2
theorem nw_mono {H H1 H' H2 : Hp} (e1 : Same H H1) (e2 : ∀ a o, H1 a = none → H' a = some o → H2 a = some o) : Same (nw H1 H') (nw H H2) := fun a o h => by
  obtain ⟨h1, h2⟩ := nw_inv h
  rw [nw_of (e1.free h1)]
  exact e2 a o h1 h2
mutual
def wid : PyData → Bool
  | .list ds => decide (ds.length ≤ 100000) && widA ds
  | .tuple ds => decide (ds.length ≤ 100000) && widA ds
  | _ => true
def widA : List PyData → Bool
  | [] => true
  | d :: ds => wid d && widA ds
end
theorem widA_at : ∀ {ds : List PyData} {d : PyData}, widA ds = true → d ∈ ds → wid d = true
  | [], _, _, h => by cases h
  | e :: ds, d, h, hm => by
    have h' : wid e = true ∧ widA ds = true := by simpa only [widA, Bool.and_eq_true] using h
    rcases List.mem_cons.mp hm with rfl | hm
    · exact h'.1
    · exact widA_at h'.2 hm
theorem depthA_at : ∀ {ds : List PyData} {d : PyData}, d ∈ ds → d.depth ≤ PyData.depthAll ds
  | [], _, h => by cases h
  | e :: ds, d, hm => by
    rw [PyData.depthAll]
    rcases List.mem_cons.mp hm with rfl | hm
    · exact Nat.le_max_left _ _
    · exact Nat.le_trans (depthA_at hm) (Nat.le_max_right _ _)
mutual
inductive Rw (H : Hp) : V → PyData → Prop where
  | non : Rw H .non .none
  | bl (b : Bool) : Rw H (.bl b) (.bool b)
  | int (i : Int) : Rw H (.int i) (.int i)
  | str (x : Str) : Rw H (.str x) (.str x)
  | lst {a : Addr} {xs : List V} {ds : List PyData} (h : H a = some (.lst xs)) (t : RwA H xs ds) : Rw H (.ref a) (.list ds)
  | tup {a : Addr} {xs : List V} {ds : List PyData} (h : H a = some (.tup xs)) (t : RwA H xs ds) : Rw H (.ref a) (.tuple ds)
inductive RwA (H : Hp) : List V → List PyData → Prop where
  | nil : RwA H [] []
  | cons {v : V} {vs : List V} {d : PyData} {ds : List PyData} (h : Rw H v d) (t : RwA H vs ds) : RwA H (v :: vs) (d :: ds)
end
mutual
theorem Rw.dp' {K : PySem.W.Frag} {H : Hp} : ∀ (d : PyData) (v : V), Rw H v d → Dp K H v d
  | .none, _, h => by cases h; exact .non
  | .bool b, _, h => by cases h; exact .bl b
  | .int i, _, h => by cases h; exact .int i
  | .str x, _, h => by cases h; exact .str x
  | .list ds, _, h => by
    cases h with
    | lst hs ha => exact .lst (SqL.of hs) (RwA.dp' ds _ ha)
  | .tuple ds, _, h => by
    cases h with
    | tup hs ha => exact .tup (SqT.of hs) (RwA.dp' ds _ ha)
  | .dict _, _, h => by cases h
theorem RwA.dp' {K : PySem.W.Frag} {H : Hp} : ∀ (ds : List PyData) (vs : List V), RwA H vs ds → DpAll K H vs ds
  | [], _, h => by cases h; exact .nil
  | d :: ds, _, h => by
    cases h with
    | cons h1 h2 => exact .cons (Rw.dp' d _ h1) (RwA.dp' ds _ h2)
end
mutual
theorem Rw.sm' {H H' : Hp} (e : Same H H') : ∀ (d : PyData) (v : V), Rw H v d → Rw H' v d
  | .none, _, h => by cases h; exact .non
  | .bool b, _, h => by cases h; exact .bl b
  | .int i, _, h => by cases h; exact .int i
  | .str x, _, h => by cases h; exact .str x
  | .list ds, _, h => by
    cases h with
    | lst hs ha => exact .lst (e _ _ hs) (RwA.sm' e ds _ ha)
  | .tuple ds, _, h => by
    cases h with
    | tup hs ha => exact .tup (e _ _ hs) (RwA.sm' e ds _ ha)
  | .dict _, _, h => by cases h
theorem RwA.sm' {H H' : Hp} (e : Same H H') : ∀ (ds : List PyData) (vs : List V), RwA H vs ds → RwA H' vs ds
  | [], _, h => by cases h; exact .nil
  | d :: ds, _, h => by
    cases h with
    | cons h1 h2 => exact .cons (Rw.sm' e d _ h1) (RwA.sm' e ds _ h2)
end
theorem Rw.dp {K : PySem.W.Frag} {H : Hp} {v : V} {d : PyData} (h : Rw H v d) : Dp K H v d := Rw.dp' d v h
theorem rsm {H H' : Hp} {v : V} {d : PyData} (e : Same H H') (h : Rw H v d) : Rw H' v d := Rw.sm' e d v h
theorem rwa_of {H : Hp} : ∀ {xs : List V} {ds : List PyData}, xs.length = ds.length → (∀ (i : Nat) v d, xs[i]? = some v → ds[i]? = some d → Rw H v d) → RwA H xs ds
  | [], [], _, _ => .nil
  | [], _ :: _, h, _ => by cases h
  | _ :: _, [], h, _ => by cases h
  | x :: xs, d :: ds, h, f => .cons (f 0 x d rfl rfl) (rwa_of (by simpa using h) fun i v d' h1 h2 => f (i + 1) v d' (by simpa using h1) (by simpa using h2))
section
variable {P : Program} {w : World} {K : PySem.W.Frag} {mg : Str → Option Value} {base : Heap} {C : Addr}
def spCopied (K : PySem.W.Frag) (n : Nat) : Sp := fun vs H Q _ => ∃ (v : V) (d : PyData), vs = [v] ∧ Dp K H v d ∧ wid d = true ∧ d.depth ≤ n ∧ ∀ H' v', Same H H' → Rw (nw H H') v' d → Q v' H'
theorem leaf_any {H G : Hp} {v : V} {d : PyData} (h : Dp K H v d) (hl : isSeq d = false) : Rw G v d := by
  cases h with
  | non => exact .non
  | bl b => exact .bl b
  | int i => exact .int i
  | str x => exact .str x
  | lst _ _ => cases hl
  | tup _ _ => cases hl
theorem k_copied (R : Raw K mg "copied" s_copied) (B : Bl mg) : ∀ n, Known P w K mg base "copied" (n + 1) ["value"] (spCopied K n) := by
  intro n
  induction n with
  | zero =>
    refine known R sc_copied (fun _ _ _ _ _ _ us hl => match us, hl with | [_], _ => rfl) (fun vs H Q E h => by obtain ⟨_, _, rfl, _⟩ := h; rfl) (fun f cdv A outer s H vs Q E hr h => ?_)
    obtain ⟨v, d, rfl, hd, hw, hn, q⟩ := h
    have hleaf : isSeq d = false := by
      cases hd <;> first | rfl | (rw [PyData.depth] at hn; omega)
    refine ⟨_, pss_cons (ps_if (pt_val (pe_callB call_isi (by rfl) B.isi (by decide +kernel) (pa_cons (pv 0) (pa_cons (pe_bltn (v := .ty "list") (by rfl) B.list (by decide +kernel) rfl) pa_nil)))) pss_never pss_nil)
      (pss_one (ps_ret (pe_ifExp (pt_val (pe_callB call_isi (by rfl) B.isi (by decide +kernel) (pa_cons (pv 0) (pa_cons (pe_bltn (v := .ty "tuple") (by rfl) B.tuple (by decide +kernel) rfl) pa_nil)))) pe_never (pv 0)))), ?_⟩
    refine ⟨_, rfl, v, .ty "list", _, _, _, rfl, .ty _, dp_ty hd, kit_dp hd, _, rfl, ?_⟩
    have e1 : isaT (tyN d) "list" = false := by cases hd <;> first | rfl | (cases hleaf) | (simp [isaT, tyN]; done)
    have e2 : isaT (tyN d) "tuple" = false := by cases hd <;> first | rfl | (cases hleaf) | (simp [isaT, tyN]; done)
    rw [e1]
    refine iteF ⟨_, rfl, v, .ty "tuple", _, _, _, rfl, .ty _, dp_ty hd, kit_dp hd, _, rfl, ?_⟩
    rw [e2]
    exact iteF ⟨_, rfl, q H v (Same.refl _) (leaf_any hd hleaf)⟩
  | succ n ih =>
    refine known R sc_copied (fun _ _ _ _ _ _ us hl => match us, hl with | [_], _ => rfl) (fun vs H Q E h => by obtain ⟨_, _, rfl, _⟩ := h; rfl) (fun f cdv A outer s H vs Q E hr h => ?_)
    obtain ⟨v, d, rfl, hd, hw, hn, q⟩ := h
    have nd := sc_copied.nd
    have turn : ∀ {xs : List V} {ds : List PyData} {D : Addr} {i : Nat} {y : V} {H4 : Hp} {Q' : VK}, H D = none → DpAll K H xs ds → widA ds = true → PyData.depthAll ds ≤ n → xs[i]? = some y → Same H (hide D H4) → (∃ acc, H4 D = some (.lst acc)) →
        (∀ z H3, Same H4 H3 → (∀ d, ds[i]? = some d → Rw (nw H (hide D H3)) z d) → Q' z H3) → spCopied K n ([y] ++ []) H4 Q' E0 := by
      intro xs ds D i y H4 Q' hD hda hwa hna hy e ⟨acc, hacc⟩ hq
      obtain ⟨d, hdi, hd⟩ := dpa_at hda hy
      refine ⟨y, d, rfl, sm (e.trans hide_same) hd, widA_at hwa (List.mem_of_getElem? hdi), Nat.le_trans (depthA_at (List.mem_of_getElem? hdi)) hna, fun H3 v' e3 h3 => hq v' H3 e3 fun d' hd' => ?_⟩
      rw [hdi] at hd'
      cases hd'
      refine rsm (nw_mono (e.trans hide_same) fun a o h1 h2 => ?_) h3
      rw [hide_ne (fun ab => by rw [ab, hacc] at h1; cases h1)]
      exact h2
    cases hleaf : isSeq d with
    | false =>
      refine ⟨_, pss_cons (ps_if (pt_val (pe_callB call_isi (by rfl) B.isi (by decide +kernel) (pa_cons (pv 0) (pa_cons (pe_bltn (v := .ty "list") (by rfl) B.list (by decide +kernel) rfl) pa_nil)))) pss_never pss_nil)
        (pss_one (ps_ret (pe_ifExp (pt_val (pe_callB call_isi (by rfl) B.isi (by decide +kernel) (pa_cons (pv 0) (pa_cons (pe_bltn (v := .ty "tuple") (by rfl) B.tuple (by decide +kernel) rfl) pa_nil)))) pe_never (pv 0)))), ?_⟩
      refine ⟨_, rfl, v, .ty "list", _, _, _, rfl, .ty _, dp_ty hd, kit_dp hd, _, rfl, ?_⟩
      have e1 : isaT (tyN d) "list" = false := by cases hd <;> first | rfl | (cases hleaf) | (simp [isaT, tyN]; done)
      have e2 : isaT (tyN d) "tuple" = false := by cases hd <;> first | rfl | (cases hleaf) | (simp [isaT, tyN]; done)
      rw [e1]
      refine iteF ⟨_, rfl, v, .ty "tuple", _, _, _, rfl, .ty _, dp_ty hd, kit_dp hd, _, rfl, ?_⟩
      rw [e2]
      exact iteF ⟨_, rfl, q H v (Same.refl _) (leaf_any hd hleaf)⟩
    | true =>
    cases d with
    | list ds =>
      obtain ⟨a, xs, rfl, hs, hda⟩ := dp_list hd
      have hw' : ds.length ≤ 100000 ∧ widA ds = true := by simpa only [wid, Bool.and_eq_true, decide_eq_true_eq] using hw
      rw [PyData.depth] at hn
      have hxl := dpa_len hda
      refine ⟨_, pss_cons (ps_if (pt_val (pe_callB call_isi (by rfl) B.isi (by decide +kernel) (pa_cons (pv 0) (pa_cons (pe_bltn (v := .ty "list") (by rfl) B.list (by decide +kernel) rfl) pa_nil))))
        (pss_one (ps_ret (pe_lc (own := [("item", 1)]) (g := gName 1) (tt := tYes) rfl nd (pi_list (pv 0)) (blkOk_by (N := N_copied) (sc := defScope s_copied) (by decide +kernel)) (fun _ _ _ _ _ => pg_name (i := 1) nd rfl (Or.inl rfl)) (fun _ _ _ _ _ => pts_nil)
          (fun _ _ _ _ _ => pk ih hr (by rfl) (pa_cons (pv 1) pa_nil))))) pss_nil) pss_never, ?_⟩
      refine ⟨_, rfl, .ref a, .ty "list", _, _, _, rfl, .ty _, dp_ty hd, kit_dp hd, _, rfl, ?_⟩
      have e1 : isaT (tyN (.list ds)) "list" = true := by simp [isaT, tyN]
      rw [e1]
      refine iteT ⟨_, rfl, a, rfl, ⟨_, hs⟩, fun D hD => lc_gen (walk_list (xs := xs)) sameAt hD (by omega) (fun i v H' => ∀ d, ds[i]? = some d → Rw (nw H H') v d) (fun i v H1 H2 e h d hd => rsm (nw_mono (Same.refl _) fun a o _ h2 => e a o h2) (h d hd))
        (fun H1 e => e.seq hs) (fun i y H3 H4 hi e hacc hy Q' hq => ?_) fun H1 acc e hacc hal hR => ?_⟩
      · obtain ⟨rfl, hy⟩ := hy
        exact ⟨rfl, _, rfl, turn hD hda hw'.2 (by omega) hy e hacc hq⟩
      · refine q H1 (.ref D) (e.trans hide_same) (.lst (by rw [nw_of hD]; exact hacc) (rwa_of (by omega) fun i v d h1 h2 => ?_))
        exact rsm (nw_mono (Same.refl _) fun a o _ h2 => hide_same a o h2) (hR i v h1 d h2)
    | tuple ds =>
      obtain ⟨a, xs, rfl, hs, hda⟩ := dp_tuple hd
      have hw' : ds.length ≤ 100000 ∧ widA ds = true := by simpa only [wid, Bool.and_eq_true, decide_eq_true_eq] using hw
      rw [PyData.depth] at hn
      have hxl := dpa_len hda
      refine ⟨_, pss_cons (ps_if (pt_val (pe_callB call_isi (by rfl) B.isi (by decide +kernel) (pa_cons (pv 0) (pa_cons (pe_bltn (v := .ty "list") (by rfl) B.list (by decide +kernel) rfl) pa_nil)))) pss_never pss_nil)
        (pss_one (ps_ret (pe_ifExp (pt_val (pe_callB call_isi (by rfl) B.isi (by decide +kernel) (pa_cons (pv 0) (pa_cons (pe_bltn (v := .ty "tuple") (by rfl) B.tuple (by decide +kernel) rfl) pa_nil))))
          (pe_callTy call_tuple_of (by rfl) B.tuple (by decide +kernel) (pa_cons (pe_lc (own := [("item", 1)]) (g := gName 1) (tt := tYes) rfl nd (pi_tup (pv 0)) (blkOk_by (N := N_copied) (sc := defScope s_copied) (by decide +kernel)) (fun _ _ _ _ _ => pg_name (i := 1) nd rfl (Or.inl rfl)) (fun _ _ _ _ _ => pts_nil)
            (fun _ _ _ _ _ => pk ih hr (by rfl) (pa_cons (pv 1) pa_nil))) pa_nil)) pe_never))), ?_⟩
      refine ⟨_, rfl, .ref a, .ty "list", _, _, _, rfl, .ty _, dp_ty hd, kit_dp hd, _, rfl, ?_⟩
      have e1 : isaT (tyN (.tuple ds)) "list" = false := by simp [isaT, tyN]
      have e2 : isaT (tyN (.tuple ds)) "tuple" = true := by simp [isaT, tyN]
      rw [e1]
      refine iteF ⟨_, rfl, .ref a, .ty "tuple", _, _, _, rfl, .ty _, dp_ty hd, kit_dp hd, _, rfl, ?_⟩
      rw [e2]
      refine iteT ⟨_, rfl, a, rfl, ⟨_, hs⟩, fun D hD => lc_gen (walk_tup (xs := xs)) sameAt hD (by omega) (fun i v H' => ∀ d, ds[i]? = some d → Rw (nw H H') v d) (fun i v H1 H2 e h d hd => rsm (nw_mono (Same.refl _) fun a o _ h2 => e a o h2) (h d hd))
        (fun H1 e => Same.tup e hs) (fun i y H3 H4 hi e hacc hy Q' hq => ?_) fun H1 acc e hacc hal hR => ⟨D, acc, rfl, .inl ⟨SqL.of hacc, fun l hl => ?_⟩⟩⟩
      · obtain ⟨rfl, hy⟩ := hy
        exact ⟨rfl, _, rfl, turn hD hda hw'.2 (by omega) hy e hacc hq⟩
      · have e3 : Same H1 (upd H1 l (.tup acc)) := (Same.refl _).new hl
        refine q _ (.ref l) ((e.trans hide_same).trans e3) (.tup (by rw [nw_of ((e.trans hide_same).free hl)]; exact upd_same) (rwa_of (by omega) fun i v d h1 h2 => ?_))
        exact rsm (nw_mono (Same.refl _) fun a o _ h2 => e3 a o (hide_same a o h2)) (hR i v h1 d h2)
    | dict kvs => cases hd
    | none => cases hleaf
    | bool b => cases hleaf
    | int i => cases hleaf
    | str x => cases hleaf
end
end L2.K55
namespace L2.K55
open PySem PySem.Spec PyProof.Rows
theorem n_21 : ¬ (("own_other" : Str) = "own_one") := by decide +kernel
theorem n_31 : ¬ (("own_pairs" : Str) = "own_one") := by decide +kernel
theorem n_41 : ¬ (("own_back" : Str) = "own_one") := by decide +kernel
theorem n_32 : ¬ (("own_pairs" : Str) = "own_other") := by decide +kernel
theorem n_42 : ¬ (("own_back" : Str) = "own_other") := by decide +kernel
theorem n_43 : ¬ (("own_back" : Str) = "own_pairs") := by decide +kernel
def mf (a b p k : V) : List (Str × V) := putF "own_back" k (putF "own_pairs" p (putF "own_other" b (putF "own_one" a [])))
theorem mf_1 (a b p k : V) : (mf a b p k).lookup ("own_one" : Str) = some a := by
  unfold mf
  rw [lookup_putF, if_neg (fun e => n_41 e.symm), lookup_putF, if_neg (fun e => n_31 e.symm), lookup_putF, if_neg (fun e => n_21 e.symm), lookup_putF, if_pos rfl]
theorem mf_2 (a b p k : V) : (mf a b p k).lookup ("own_other" : Str) = some b := by
  unfold mf
  rw [lookup_putF, if_neg (fun e => n_42 e.symm), lookup_putF, if_neg (fun e => n_32 e.symm), lookup_putF, if_pos rfl]
theorem mf_3 (a b p k : V) : (mf a b p k).lookup ("own_pairs" : Str) = some p := by
  unfold mf
  rw [lookup_putF, if_neg (fun e => n_43 e.symm), lookup_putF, if_pos rfl]
theorem mf_4 (a b p k : V) : (mf a b p k).lookup ("own_back" : Str) = some k := by
  unfold mf
  rw [lookup_putF, if_pos rfl]
theorem mf_no (a b p k : V) {m : Str} (h1 : ¬ m = "own_one") (h2 : ¬ m = "own_other") (h3 : ¬ m = "own_pairs") (h4 : ¬ m = "own_back") : (mf a b p k).lookup m = none := by
  unfold mf
  rw [lookup_putF, if_neg h4, lookup_putF, if_neg h3, lookup_putF, if_neg h2, lookup_putF, if_neg h1]
  rfl
structure MF (K : PySem.W.Frag) (mg : Str → Option Value) (C : Addr) : Prop where
  cl : Cls K C
  n1 : NoAttr K C "own_one"
  n2 : NoAttr K C "own_other"
  n3 : NoAttr K C "own_pairs"
  n4 : NoAttr K C "own_back"
  mgC : mg "Match" = some (.ref C)
def MatchAt (K : PySem.W.Frag) (CT CM : Addr) (H : Hp) (x : Addr) (m n : Mc) (d bk : PyData) : Prop := ∃ dx xa xb vp vb, H x = some (.ins CM dx (mf (.ref xa) (.ref xb) vp vb)) ∧ TurnerAt K CT H xa m ∧ TurnerAt K CT H xb n ∧ Dp K H vp d ∧ Dp K H vb bk
theorem MatchAt.same {K : PySem.W.Frag} {CT CM : Addr} {H H' : Hp} {x : Addr} {m n : Mc} {d bk : PyData} (h : MatchAt K CT CM H x m n d bk) (e : Same H H') : MatchAt K CT CM H' x m n d bk := by
  obtain ⟨dx, xa, xb, vp, vb, h1, h2, h3, h4, h5⟩ := h
  exact ⟨dx, xa, xb, vp, vb, e _ _ h1, h2.same e, h3.same e, sm e h4, sm e h5⟩
theorem pe_makeS {X : Cx} {k : Nat} {f C : Addr} {fd : FuncData} {ps : List Str} {sp sp' : Sp} {x : Str} {p pos : Pos} {e : Expr} {es : List Expr} {t : TA} (M : Mk X.K C f) (F : FnOk X.prog X.w X.K X.mg X.base CX0 k f fd ps sp) (hr : Room (k + 1) X.A) (hg : Gl X x) (hm : X.mg x = some (.ref C)) (hb : Binds X.K fd ps [])
    (imp : ∀ vs H Q E, sp' vs H Q E → ∀ y dx, H y = none → H dx = none → dx ≠ y → sp (.ref y :: vs) (upd (upd H dx (.own y)) y (.ins C dx [])) (fun v H2 => v = .non ∧ Q (.ref y) H2) E)
    (ha : PA X (e :: es) t) (hdb : (x == ("__debug__" : Str)) = false := by decide) (he : starEach (e :: es) X.env = (false, eval e X.env) :: starEach es X.env := by rfl) (hpl : (backTo pos (starEach es X.env)).any (·.1) = false := by rfl) :
    PE X (.Call (.Name x p) (e :: es) [] pos) (tCall sp' [] E0 t) := by
  refine ⟨fun pins s σ H Q I h => ?_⟩
  refine wpAny_Call_Name_kw (ld_glob I hg hm ?_ hdb)
  refine PySem.W.callWith_K (h₀ := X.base) I.ok.mod.kin M.kp (thn (ha.run pos pins s σ H _ I h) fun us s1 ⟨vs, H1, I1, r, q⟩ => ⟨I1.kIn, ?_⟩) he hpl
  refine run_make M F hr hb .nil pass0 I1 r fun y dx h1 h2 h3 => ?_
  have q' : sp' (vs ++ []) H1 Q E0 := q
  rw [List.append_nil] at q' ⊢
  exact imp vs H1 Q E0 q' y dx h1 h2 h3
theorem leaf_wid {K : PySem.W.Frag} {H : Hp} {v : V} {d : PyData} (h : Dp K H v d) (hl : isSeq d = false) : wid d = true := by
  cases h with
  | lst _ _ => cases hl
  | tup _ _ => cases hl
  | _ => simp [wid]
theorem leaf_depth {K : PySem.W.Frag} {H : Hp} {v : V} {d : PyData} (h : Dp K H v d) (hl : isSeq d = false) : d.depth = 0 := by
  cases h with
  | lst _ _ => cases hl
  | tup _ _ => cases hl
  | _ => simp [PyData.depth]
section
variable {P : Program} {w : World} {K : PySem.W.Frag} {mg : Str → Option Value} {base : Heap} {CT CM : Addr}
structure MArgs (K : PySem.W.Frag) (CT : Addr) (H : Hp) (xa xb : Addr) (m n : Mc) (vp : V) (d : PyData) (vb : V) (bk : PyData) : Prop where
  t1 : TurnerAt K CT H xa m
  t2 : TurnerAt K CT H xb n
  dp : Dp K H vp d
  wd : wid d = true
  dd : d.depth ≤ 3
  db : Dp K H vb bk
  lb : isSeq bk = false
def spMInit (K : PySem.W.Frag) (CT CM : Addr) : Sp := fun vs H Q _ => ∃ (x dx xa xb : Addr) (m n : Mc) (vp vb : V) (d bk : PyData), vs = [.ref x, .ref xa, .ref xb, vp, vb] ∧ H x = some (.ins CM dx []) ∧ MArgs K CT H xa xb m n vp d vb bk ∧
  ∀ H' vp' vb', (∀ a o, a ≠ x → H a = some o → H' a = some o) → H' x = some (.ins CM dx (mf (.ref xa) (.ref xb) vp' vb')) → Dp K (nw H H') vp' d → Dp K (nw H H') vb' bk → Q .non H'
theorem k_minit {f : Addr} {fd : FuncData} (F : Fun K "__init__" "Match.__init__" s_Match_init f fd) (T : MF K mg CM) (F1 : ∀ n, Known P w K mg base "copied" (n + 1) ["value"] (spCopied K n)) :
    FnOk P w K mg base CX0 5 f fd ["self", "one", "other", "pairs", "back"] (spMInit K CT CM) := by
  refine F.ok sc_Match_init (fun vs H Q E h => by obtain ⟨_, _, _, _, _, _, _, _, _, _, rfl, _⟩ := h; rfl) (fun cdv A outer s H vs Q E hr h => ?_)
  obtain ⟨x, dx, xa, xb, m, n, vp, vb, d, bk, rfl, h1, a, q⟩ := h
  refine ⟨_, pss_cons (ps_asg (pe_tup (pa_cons (pv 1) (pa_cons (pv 2) pa_nil))) (pg_tup rfl (pgs_cons (pg_attr (pv 0)) (pgs_cons (pg_attr (pv 0)) pgs_nil))))
    (pss_one (ps_asg (pe_tup (pa_cons (pk (F1 3) hr (by rfl) (pa_cons (pv 3) pa_nil)) (pa_cons (pk ((F1 0).mono (by decide : 1 ≤ 4)) hr (by rfl) (pa_cons (pv 4) pa_nil)) pa_nil))) (pg_tup rfl (pgs_cons (pg_attr (pv 0)) (pgs_cons (pg_attr (pv 0)) pgs_nil))))), ?_⟩
  refine ⟨_, rfl, _, rfl, (by show 2 ≤ sizeLine; decide), fun t ht => ?_⟩
  have ntx : x ≠ t := ne_of_none h1 ht
  refine ⟨t, _, rfl, SqT.of upd_same, rfl, _, _, rfl, _, rfl, x, CM, dx, [], rfl, (by rw [upd_ne ntx]; exact h1), T.cl, T.n1, (by show 0 < 1000; decide), _, _, rfl, _, rfl, x, CM, dx, _, rfl, upd_same, T.cl, T.n2, (by show 1 < 1000; decide), rfl, ?_⟩
  rw [upd_upd]
  have k1 : ∀ b o, b ≠ x → H b = some o → upd (upd H t (.tup [.ref xa, .ref xb])) x (.ins CM dx (putF "own_other" (.ref xb) (putF "own_one" (.ref xa) []))) b = some o := fun b o hb ho => by
    rw [upd_ne hb, upd_ne (ne_of_none ho ht)]
    exact ho
  have ks : ∀ b o, b ≠ x → H b = some o → upd (upd H t (.tup [.ref xa, .ref xb])) x (.ins CM dx (putF "own_other" (.ref xb) (putF "own_one" (.ref xa) []))) b = some o := k1
  have kx : upd (upd H t (.tup [.ref xa, .ref xb])) x (.ins CM dx (putF "own_other" (.ref xb) (putF "own_one" (.ref xa) []))) x = some (.ins CM dx (putF "own_other" (.ref xb) (putF "own_one" (.ref xa) []))) := upd_same
  have ss : SS H (upd (upd H t (.tup [.ref xa, .ref xb])) x (.ins CM dx (putF "own_other" (.ref xb) (putF "own_one" (.ref xa) [])))) := fun b o hno ho => k1 b o (fun e => by rw [e, h1] at ho; exact hno _ _ _ (Option.some.inj ho).symm) ho
  generalize upd (upd H t (.tup [.ref xa, .ref xb])) x (.ins CM dx (putF "own_other" (.ref xb) (putF "own_one" (.ref xa) []))) = H3 at *
  refine ⟨_, rfl, vp, d, rfl, sms ss a.dp, a.wd, a.dd, fun H4 vp' e4 hp4 => ⟨_, rfl, vb, bk, rfl, sm e4 (sms ss a.db), ?_, ?_, fun H5 vb' e5 hb5 => ⟨by show 2 ≤ sizeLine; decide, fun u hu => ?_⟩⟩⟩
  · exact leaf_wid a.db a.lb
  · rw [leaf_depth a.db a.lb]
    exact Nat.le_refl _
  have hp4 := hp4.dp (K := K)
  have hb5 := hb5.dp (K := K)
  have e35 : Same H3 H5 := e4.trans e5
  have hx5 := e35 _ _ kx
  have nux : x ≠ u := ne_of_none hx5 hu
  refine ⟨u, _, rfl, SqT.of upd_same, rfl, _, _, rfl, _, rfl, x, CM, dx, _, rfl, (by rw [upd_ne nux]; exact hx5), T.cl, T.n3, (by show 2 < 1000; decide), _, _, rfl, _, rfl, x, CM, dx, _, rfl, upd_same, T.cl, T.n4, (by show 3 < 1000; decide), rfl, ?_⟩
  rw [upd_upd]
  have fin : ∀ b o, b ≠ x → H5 b = some o → upd (upd H5 u (.tup [vp', vb'])) x (.ins CM dx (putF "own_back" vb' (putF "own_pairs" vp' (putF "own_other" (.ref xb) (putF "own_one" (.ref xa) []))))) b = some o := fun b o hb ho => by
    rw [upd_ne hb, upd_ne (ne_of_none ho hu)]
    exact ho
  have hno : ∀ b, H3 b = none → H b = none := fun b hb => by
    cases e : H b with
    | none => rfl
    | some o =>
      by_cases hbx : b = x
      · rw [hbx, kx] at hb; cases hb
      · rw [ks b o hbx e] at hb; cases hb
  have up : ∀ {H6 : Hp}, Same H3 H6 → Same H6 H5 → Same (nw H3 H6) (nw H (upd (upd H5 u (.tup [vp', vb'])) x (.ins CM dx (putF "own_back" vb' (putF "own_pairs" vp' (putF "own_other" (.ref xb) (putF "own_one" (.ref xa) [])))))) ) := fun {H6} e36 e65 b o hb => by
    obtain ⟨n1, n2⟩ := nw_inv hb
    rw [nw_of (hno b n1)]
    exact fin b o (fun e => by rw [e, kx] at n1; cases n1) (e65 _ _ n2)
  refine q _ vp' vb' (fun b o hb ho => fin b o hb (e35 _ _ (ks b o hb ho))) upd_same ?_ ?_
  · exact sm (up e4 e5) hp4
  · have hbl : Dp K H5 vb' bk := sm nw_same hb5
    exact (leaf_any hbl a.lb).dp
theorem MArgs.same {H H' : Hp} {xa xb : Addr} {m n : Mc} {vp vb : V} {d bk : PyData} (a : MArgs K CT H xa xb m n vp d vb bk) (e : Same H H') : MArgs K CT H' xa xb m n vp d vb bk :=
  ⟨a.t1.same e, a.t2.same e, sm e a.dp, a.wd, a.dd, sm e a.db, a.lb⟩
def spMk (K : PySem.W.Frag) (CT CM : Addr) : Sp := fun vs H Q _ => ∃ (xa xb : Addr) (m n : Mc) (vp vb : V) (d bk : PyData), vs = [.ref xa, .ref xb, vp, vb] ∧ MArgs K CT H xa xb m n vp d vb bk ∧
  ∀ H' x dx vp' vb', H x = none → H dx = none → Same H H' → H' x = some (.ins CM dx (mf (.ref xa) (.ref xb) vp' vb')) → Dp K (nw H H') vp' d → Dp K (nw H H') vb' bk → Q (.ref x) H'
theorem mk_imp (vs : List V) (H : Hp) (Q : VK) (E : XK) (h : spMk K CT CM vs H Q E) (y dx : Addr) (h1 : H y = none) (h2 : H dx = none) (h3 : dx ≠ y) :
    spMInit K CT CM (.ref y :: vs) (upd (upd H dx (.own y)) y (.ins CM dx [])) (fun v H2 => v = .non ∧ Q (.ref y) H2) E := by
  obtain ⟨xa, xb, m, n, vp, vb, d, bk, rfl, a, q⟩ := h
  have e : Same H (upd (upd H dx (.own y)) y (.ins CM dx [])) := ((Same.refl H).new h2).mut h1
  refine ⟨y, dx, xa, xb, m, n, vp, vb, d, bk, rfl, upd_same, a.same e, fun H' vp' vb' k1 k2 k3 k4 => ⟨rfl, ?_⟩⟩
  have e2 : Same H H' := fun b o hb => k1 b o (ne_of_none hb h1) (e b o hb)
  have up : Same (nw (upd (upd H dx (.own y)) y (.ins CM dx [])) H') (nw H H') := nw_mono e fun _ _ _ h => h
  exact q H' y dx vp' vb' h1 h2 e2 k2 (sm up k3) (sm up k4)
def KnownC (P : Program) (w : World) (K : PySem.W.Frag) (mg : Str → Option Value) (base : Heap) (CT CM : Addr) : Prop := ∃ f fd, FnOk P w K mg base CX0 5 f fd ["self", "one", "other", "pairs", "back"] (spMInit K CT CM) ∧ Mk K CM f ∧ mg "Match" = some (.ref CM) ∧ Binds K fd ["self", "one", "other", "pairs", "back"] []
theorem pkMatch {X : Cx} {p pos : Pos} {e : Expr} {es : List Expr} {t : TA} (F : KnownC X.prog X.w X.K X.mg X.base CT CM) (hr : Room 6 X.A) (hg : Gl X "Match") (ha : PA X (e :: es) t)
    (he : starEach (e :: es) X.env = (false, eval e X.env) :: starEach es X.env := by rfl) (hpl : (backTo pos (starEach es X.env)).any (·.1) = false := by rfl) : PE X (.Call (.Name "Match" p) (e :: es) [] pos) (tCall (spMk X.K CT CM) [] E0 t) := by
  obtain ⟨f, fd, F, M, hm, hb⟩ := F
  exact pe_makeS M F hr hg hm hb mk_imp ha (by decide) he hpl
def spMOne (K : PySem.W.Frag) (CT CM : Addr) : Sp := fun vs H Q _ => ∃ (x : Addr) (m n : Mc) (d bk : PyData), vs = [.ref x] ∧ MatchAt K CT CM H x m n d bk ∧ ∀ xa, TurnerAt K CT H xa m → Q (.ref xa) H
theorem k_mone (R : RawP K CM "one" "Match.one" s_Match_one) (T : MF K mg CM) : KnownP P w K mg base CM "one" 1 (spMOne K CT CM) := by
  refine knownP R sc_Match_one (fun _ _ _ _ _ _ us hl => match us, hl with | [_], _ => rfl) (fun vs H Q E h => by obtain ⟨_, _, _, _, _, rfl, _⟩ := h; rfl) (fun f cdv A outer s H vs Q E hr h => ?_)
  obtain ⟨x, m, n, d, bk, rfl, ⟨dx, xa, xb, vp, vb, h1, h2, h3, h4, h5⟩, q⟩ := h
  refine ⟨_, pss_one (ps_ret (pe_fld (pv 0) rfl)), ?_⟩
  exact ⟨_, rfl, x, CM, dx, _, _, rfl, h1, T.cl, T.n1, mf_1 _ _ _ _, q xa h2⟩
def spMOther (K : PySem.W.Frag) (CT CM : Addr) : Sp := fun vs H Q _ => ∃ (x : Addr) (m n : Mc) (d bk : PyData), vs = [.ref x] ∧ MatchAt K CT CM H x m n d bk ∧ ∀ xa, TurnerAt K CT H xa n → Q (.ref xa) H
theorem k_mother (R : RawP K CM "other" "Match.other" s_Match_other) (T : MF K mg CM) : KnownP P w K mg base CM "other" 1 (spMOther K CT CM) := by
  refine knownP R sc_Match_other (fun _ _ _ _ _ _ us hl => match us, hl with | [_], _ => rfl) (fun vs H Q E h => by obtain ⟨_, _, _, _, _, rfl, _⟩ := h; rfl) (fun f cdv A outer s H vs Q E hr h => ?_)
  obtain ⟨x, m, n, d, bk, rfl, ⟨dx, xa, xb, vp, vb, h1, h2, h3, h4, h5⟩, q⟩ := h
  refine ⟨_, pss_one (ps_ret (pe_fld (pv 0) rfl)), ?_⟩
  exact ⟨_, rfl, x, CM, dx, _, _, rfl, h1, T.cl, T.n2, mf_2 _ _ _ _, q xb h3⟩
def spMPairs (K : PySem.W.Frag) (CT CM : Addr) : Sp := fun vs H Q _ => ∃ (x : Addr) (m n : Mc) (d bk : PyData), vs = [.ref x] ∧ MatchAt K CT CM H x m n d bk ∧ wid d = true ∧ d.depth ≤ 3 ∧ ∀ H' v', Same H H' → Rw (nw H H') v' d → Q v' H'
theorem k_mpairs (R : RawP K CM "pairs" "Match.pairs" s_Match_pairs) (T : MF K mg CM) (F1 : ∀ n, Known P w K mg base "copied" (n + 1) ["value"] (spCopied K n)) : KnownP P w K mg base CM "pairs" 5 (spMPairs K CT CM) := by
  refine knownP R sc_Match_pairs (fun _ _ _ _ _ _ us hl => match us, hl with | [_], _ => rfl) (fun vs H Q E h => by obtain ⟨_, _, _, _, _, rfl, _⟩ := h; rfl) (fun f cdv A outer s H vs Q E hr h => ?_)
  obtain ⟨x, m, n, d, bk, rfl, ⟨dx, xa, xb, vp, vb, h1, h2, h3, h4, h5⟩, hw, hd, q⟩ := h
  refine ⟨_, pss_one (ps_ret (pk (F1 3) hr (by rfl) (pa_cons (pe_fld (pv 0) rfl) pa_nil))), ?_⟩
  exact ⟨_, rfl, x, CM, dx, _, _, rfl, h1, T.cl, T.n3, mf_3 _ _ _ _, vp, d, rfl, h4, hw, hd, q⟩
def spMBack (K : PySem.W.Frag) (CT CM : Addr) : Sp := fun vs H Q _ => ∃ (x : Addr) (m n : Mc) (d bk : PyData), vs = [.ref x] ∧ MatchAt K CT CM H x m n d bk ∧ isSeq bk = false ∧ ∀ H' v', Same H H' → Dp K H' v' bk → Q v' H'
theorem k_mback (R : RawP K CM "back" "Match.back" s_Match_back) (T : MF K mg CM) (F1 : ∀ n, Known P w K mg base "copied" (n + 1) ["value"] (spCopied K n)) : KnownP P w K mg base CM "back" 2 (spMBack K CT CM) := by
  refine knownP R sc_Match_back (fun _ _ _ _ _ _ us hl => match us, hl with | [_], _ => rfl) (fun vs H Q E h => by obtain ⟨_, _, _, _, _, rfl, _⟩ := h; rfl) (fun f cdv A outer s H vs Q E hr h => ?_)
  obtain ⟨x, m, n, d, bk, rfl, ⟨dx, xa, xb, vp, vb, h1, h2, h3, h4, h5⟩, hl, q⟩ := h
  refine ⟨_, pss_one (ps_ret (pk (F1 0) hr (by rfl) (pa_cons (pe_fld (pv 0) rfl) pa_nil))), ?_⟩
  exact ⟨_, rfl, x, CM, dx, _, _, rfl, h1, T.cl, T.n4, mf_4 _ _ _ _, vb, bk, rfl, h5, leaf_wid h5 hl, by rw [leaf_depth h5 hl]; exact Nat.le_refl _, fun H' v' e hv => q H' v' e (sm nw_same hv.dp)⟩
def lenD : PyData → Nat
  | .list ds => ds.length
  | .tuple ds => ds.length
  | _ => 0
def spMLen (K : PySem.W.Frag) (CT CM : Addr) : Sp := fun vs H Q _ => ∃ (x : Addr) (m n : Mc) (d bk : PyData), vs = [.ref x] ∧ MatchAt K CT CM H x m n d bk ∧ ∀ H', Same H H' → Q (.int (lenD d : Nat)) H'
theorem k_mlen (R : RawM K CM "__len__" "Match.__len__" s_Match_len) (T : MF K mg CM) (B : Bl mg) (F1 : Known P w K mg base "is_list" 1 ["value"] (spIsList K)) : KnownM P w K mg base CM "__len__" 2 ["self"] (spMLen K CT CM) := by
  refine knownM R sc_Match_len (fun _ _ _ _ _ _ us hl => match us, hl with | [_], _ => rfl) (fun vs H Q E h => by obtain ⟨_, _, _, _, _, rfl, _⟩ := h; rfl) (fun f cdv A outer s H vs Q E hr h => ?_)
  obtain ⟨x, m, n, d, bk, rfl, ⟨dx, xa, xb, vp, vb, h1, h2, h3, h4, h5⟩, q⟩ := h
  refine ⟨_, pss_cons (ps_if (pt_val (pk F1 hr (by rfl) (pa_cons (pe_fld (pv 0) rfl) pa_nil))) (pss_one (ps_ret (pe_callB call_len_seq (by rfl) B.len PySem.boot_len (pa_cons (pe_fld (pv 0) rfl) pa_nil)))) pss_nil) (pss_one (ps_ret pe_int)), ?_⟩
  refine ⟨_, rfl, x, CM, dx, _, _, rfl, h1, T.cl, T.n3, mf_3 _ _ _ _, vp, d, rfl, h4, fun H1 e1 => ⟨_, rfl, ?_⟩⟩
  have hd1 := sm e1 h4
  cases d with
  | list ds =>
    obtain ⟨a, xs, rfl, hs, hda⟩ := dp_list hd1
    refine iteT ⟨_, rfl, x, CM, dx, _, _, rfl, e1 _ _ h1, T.cl, T.n3, mf_3 _ _ _ _, a, xs, rfl, .inl hs, ?_⟩
    rw [dpa_len hda]
    exact q H1 e1
  | tuple ds =>
    obtain ⟨a, xs, rfl, hs, hda⟩ := dp_tuple hd1
    refine iteT ⟨_, rfl, x, CM, dx, _, _, rfl, e1 _ _ h1, T.cl, T.n3, mf_3 _ _ _ _, a, xs, rfl, .inr hs, ?_⟩
    rw [dpa_len hda]
    exact q H1 e1
  | _ => exact iteF (q H1 e1)
def reprS (k : Nat) : Str := Str.empty ++ "Match(" ++ toString (k : Int) ++ " pairs)"
def spMRepr (K : PySem.W.Frag) (CT CM : Addr) : Sp := fun vs H Q _ => ∃ (x : Addr) (m n : Mc) (d bk : PyData), vs = [.ref x] ∧ MatchAt K CT CM H x m n d bk ∧ lenD d ≤ 100000 ∧ ∀ H', Same H H' → Q (.str (reprS (lenD d))) H'
theorem k_mrepr (R : RawM K CM "__repr__" "Match.__repr__" s_Match_repr) (T : MF K mg CM) (B : Bl mg) (F1 : KnownM P w K mg base CM "__len__" 2 ["self"] (spMLen K CT CM)) : KnownM P w K mg base CM "__repr__" 4 ["self"] (spMRepr K CT CM) := by
  refine knownM R sc_Match_repr (fun _ _ _ _ _ _ us hl => match us, hl with | [_], _ => rfl) (fun vs H Q E h => by obtain ⟨_, _, _, _, _, rfl, _⟩ := h; rfl) (fun f cdv A outer s H vs Q E hr h => ?_)
  obtain ⟨x, m, n, d, bk, rfl, hM, hl, q⟩ := h
  obtain ⟨dx, xa, xb, vp, vb, h1, h2, h3, h4, h5⟩ := id hM
  refine ⟨_, pss_one (ps_ret (pe_joined (PJ.cons pe_str (PJ.cons (pe_fmt (pe_callB (call_lenK F1 hr) (by rfl) B.len PySem.boot_len (pa_cons (pv 0) pa_nil))) (PJ.cons pe_str PJ.nil))))), ?_⟩
  refine ⟨_, rfl, ?_, _, rfl, x, dx, _, rfl, h1, x, m, n, d, bk, rfl, hM, fun H1 e1 => ⟨⟨_, rfl, by omega⟩, .inr ⟨_, rfl, ?_, _, rfl, ?_, _, rfl, ?_, q H1 e1⟩⟩⟩
  · show (Str.empty ++ ("Match(" : Str)).length ≤ sizeLine
    rw [Str.length_append]
    exact Nat.le_trans (by decide +kernel : Str.empty.length + ("Match(" : Str).length ≤ 100) (by decide)
  · refine Nat.lt_of_le_of_lt (m := 17) ?_ (by decide)
    show ((lenD d : Nat) : Int).natAbs.log2 ≤ 17
    rw [Int.natAbs_natCast]
    have h1 : (lenD d).log2 < 17 ∨ lenD d = 0 := by
      by_cases h0 : lenD d = 0
      · exact .inr h0
      · exact .inl ((Nat.log2_lt h0).mpr (by omega))
    rcases h1 with h1 | h1
    · omega
    · rw [h1]
      decide
  · show ((Str.empty ++ ("Match(" : Str)) ++ (toString ((lenD d : Nat) : Int) : Str)).length ≤ sizeLine
    rw [Str.length_append, Str.length_append]
    have h1 : (Str.ofString (toString ((lenD d : Nat) : Int))).length ≤ 6 := toString_length_le (by omega) (by decide) (by omega)
    have h2 : Str.empty.length + ("Match(" : Str).length ≤ 100 := by decide +kernel
    exact Nat.le_trans (Nat.add_le_add h2 h1) (by decide)
  · show (((Str.empty ++ ("Match(" : Str)) ++ (toString ((lenD d : Nat) : Int) : Str)) ++ (" pairs)" : Str)).length ≤ sizeLine
    rw [Str.length_append, Str.length_append, Str.length_append]
    have h1 : (Str.ofString (toString ((lenD d : Nat) : Int))).length ≤ 6 := toString_length_le (by omega) (by decide) (by omega)
    have h2 : Str.empty.length + ("Match(" : Str).length ≤ 100 := by decide +kernel
    have h3 : (" pairs)" : Str).length ≤ 100 := by decide +kernel
    exact Nat.le_trans (Nat.add_le_add (Nat.add_le_add h2 h1) h3) (by decide)
end
end L2.K55
namespace L2.K55
open PySem PySem.Spec PyProof.Rows
inductive Itm where
  | pr (a : List Int) (o : Option (List Int))
  | l2 (a b : List Int)
  | li (a : List Int)
  | t1 (a : List Int)
  | non
def Itm.d : Itm → PyData
  | .pr a o => .tuple [dI a, oD o]
  | .l2 a b => .list [dI a, dI b]
  | .li a => dI a
  | .t1 a => .tuple [dI a]
  | .non => .none
def Itm.isP : Itm → Bool
  | .pr _ _ => true
  | _ => false
def Itm.pr? : Itm → Option (List Int × Option (List Int))
  | .pr a o => some (a, o)
  | _ => none
def Itm.ok : Itm → Prop
  | .pr a o => a.length ≤ 100000 ∧ ∀ b, o = some b → b.length ≤ 100000
  | .l2 a b => a.length ≤ 100000 ∧ b.length ≤ 100000
  | .li a => a.length ≤ 100000
  | .t1 a => a.length ≤ 100000
  | .non => True
def mkP (p : List Int × Option (List Int)) : Itm := .pr p.1 p.2
inductive Sm where
  | non
  | three
  | lst (is : List Itm)
  | tup (is : List Itm)
def Sm.d : Sm → PyData
  | .non => .none
  | .three => .int 3
  | .lst is => .list (is.map Itm.d)
  | .tup is => .tuple (is.map Itm.d)
def Sm.ok : Sm → Prop
  | .lst is => is.length ≤ 1000 ∧ ∀ i ∈ is, i.ok
  | .tup is => is.length ≤ 1000 ∧ ∀ i ∈ is, i.ok
  | _ => True
def Bk.d : Bk → PyData
  | .non => .none
  | .bl b => .bool b
  | .num i => .int i
def prsI (is : List Itm) : Prs := is.filterMap Itm.pr?
def hPi (m n : Mc) (is : List Itm) (bk : Bk) : Bool := is.all Itm.isP && holdsP m n (prsI is) bk
def hP (m n : Mc) (s : Sm) (bk : Bk) : Bool := match s with
  | .lst is => hPi m n is bk
  | .tup is => hPi m n is bk
  | _ => false
def hL (m n : Mc) (s : Sm) (bk : Bk) : Bool := match s with
  | .lst is => is.all Itm.isP && holdsL m n (prsI is) bk
  | _ => false
theorem all_mkP : ∀ {is : List Itm}, is.all Itm.isP = true → is = (prsI is).map mkP
  | [], _ => rfl
  | i :: is, h => by
    rw [List.all_cons, Bool.and_eq_true] at h
    cases i with
    | pr a o =>
      show Itm.pr a o :: is = mkP (a, o) :: (prsI is).map mkP
      rw [← all_mkP h.2]
      rfl
    | _ => exact absurd h.1 Bool.false_ne_true
theorem prsI_mk : ∀ ps : Prs, prsI (ps.map mkP) = ps
  | [] => rfl
  | p :: ps => by
    show (p.1, p.2) :: prsI (ps.map mkP) = p :: ps
    rw [prsI_mk ps]
def SqA (K : PySem.W.Frag) (H : Hp) (a : Addr) (xs : List V) : Prop := SqL K H a xs ∨ SqT K H a xs
theorem _root_.L2.Same.sqa {K : PySem.W.Frag} {H H' : Hp} {a : Addr} {xs : List V} (e : Same H H') (h : SqA K H a xs) : SqA K H' a xs := h.elim (fun h => .inl (e.seq h)) fun h => .inr (e.tup h)
def seqR (K : PySem.W.Frag) (H1 : Hp) (a : Addr) (R : It → Hp → Prop) : Prop := ((∃ xs, SqL K H1 a xs) ∧ R (Itl K a) H1) ∨ ((∃ xs, SqT K H1 a xs) ∧ R (Itt K a) H1)
def iSeq (K : PySem.W.Frag) (tl : TE) : TI := fun σ H R => tl σ H fun x H1 => ∃ a, x = .ref a ∧ seqR K H1 a R
theorem pi_seq {X : Cx} {tg l : Expr} {tl : TE} (hl : PE X l tl) : PI X tg l (iSeq X.K tl) := by
  refine ⟨fun pins s σ H R I h => ?_⟩
  refine thn (hl.run pins s σ H _ I h) fun v s1 ⟨x, H1, I1, r1, q1⟩ => ?_
  obtain ⟨a, e, q⟩ := q1
  subst e
  cases r1
  rcases q with ⟨⟨xs, hq⟩, q⟩ | ⟨⟨xs, hq⟩, q⟩
  · obtain ⟨its, rv, p, hz⟩ := I1.list hq
    refine wpAny_pyIter_list p.isList ?_
    refine ⟨s1.heap.objs.size, [s1.heap.objs.size], _, _, H1, rfl, I1.kept (t' := s1.toks) fun b o e => Heap.get?_push_of_some _ e, turn_list a _, ⟨_, Heap.get?_push_size _ rfl, rfl, rfl⟩, fun b hb => ?_, q⟩
    have e : b = s1.heap.objs.size := by simpa using hb
    subst e
    exact I1.fpOk (Nat.le_refl _) (I1.hok.fresh (Nat.le_refl _))
  · obtain ⟨its, rv, p, hz⟩ := I1.tuple hq
    refine wpAny_pyIter_tuple (show s1.heap.IsTuple a its.toArray from p) ?_
    refine ⟨s1.heap.objs.size, [s1.heap.objs.size], _, _, H1, rfl, I1.kept (t' := s1.toks) fun b o e => Heap.get?_push_of_some _ e, turn_tuple a _, ⟨_, Heap.get?_push_size _ rfl, rfl, rfl⟩, fun b hb => ?_, q⟩
    have e : b = s1.heap.objs.size := by simpa using hb
    subst e
    exact I1.fpOk (Nat.le_refl _) (I1.hok.fresh (Nat.le_refl _))
theorem iSeq_of {K : PySem.W.Frag} {H1 : Hp} {a : Addr} {xs : List V} {R : It → Hp → Prop} (hs : SqA K H1 a xs) (h : ∀ J G, Walk J xs.length G (YAt xs) → (∀ H, Same H1 H → G H) → R J H1) :
    seqR K H1 a R := by
  rcases hs with hs | hs
  · exact .inl ⟨⟨_, hs⟩, h _ _ walk_list fun H e => e.seq hs⟩
  · exact .inr ⟨⟨_, hs⟩, h _ _ walk_tup fun H e => e.tup hs⟩
def rIxA (K : PySem.W.Frag) : R2 := fun x y H Q => rIxL K x y H Q ∨ rIxT K x y H Q
theorem ixA {X : Cx} : IxR X (rIxA X.K) := ix_list.or ix_tup
theorem ixA_of {K : PySem.W.Frag} {H : Hp} {a : Addr} {xs : List V} {i : Int} {v : V} {Q : VK} (hs : SqA K H a xs) (h : atI xs i = some v) (q : Q v H) : rIxA K (.ref a) (.int i) H Q :=
  hs.elim (fun hs => .inl ⟨a, xs, i, v, rfl, rfl, hs, h, q⟩) fun hs => .inr ⟨a, xs, i, v, rfl, rfl, hs, h, q⟩
theorem atI_neg1 {xs : List V} {v : V} (h : xs[xs.length - 1]? = some v) : atI xs (-1) = some v := by
  have hl : 0 < xs.length := by
    cases xs with
    | nil => simp at h
    | cons a l => simp
  unfold atI ixN
  rw [if_neg (by omega), if_pos (by omega)]
  have : (-1 + (xs.length : Int)).toNat = xs.length - 1 := by omega
  rw [this]
  exact h
theorem ifT {c : Bool} {A B : Prop} (h : c = true) (a : A) : if c = true then A else B := by rw [if_pos h]; exact a
theorem ifF {c : Bool} {A B : Prop} (h : c = false) (b : B) : if c = true then A else B := by rw [if_neg (by rw [h]; exact Bool.false_ne_true)]; exact b
theorem sd_seq {K : PySem.W.Frag} {H : Hp} {v : V} {m n : Mc} {s : Sm} {bk : Bk} (h : Dp K H v s.d) (ok : s.ok) : (isSeq s.d = false ∧ hP m n s bk = false) ∨
    ∃ is a xs, v = .ref a ∧ SqA K H a xs ∧ DpAll K H xs (is.map Itm.d) ∧ isSeq s.d = true ∧ hP m n s bk = hPi m n is bk ∧ is.length ≤ 1000 ∧ ∀ i ∈ is, i.ok := by
  cases s with
  | non => exact .inl ⟨rfl, rfl⟩
  | three => exact .inl ⟨rfl, rfl⟩
  | lst is =>
    obtain ⟨a, xs, e, h1, h2⟩ := dp_list h
    exact .inr ⟨is, a, xs, e, .inl h1, h2, rfl, rfl, ok.1, ok.2⟩
  | tup is =>
    obtain ⟨a, xs, e, h1, h2⟩ := dp_tuple h
    exact .inr ⟨is, a, xs, e, .inr h1, h2, rfl, rfl, ok.1, ok.2⟩
theorem itm_isP {K : PySem.W.Frag} {H : Hp} {v : V} {i : Itm} (h : Dp K H v i.d) : (isaT (tyN i.d) "tuple" = false ∧ i.isP = false) ∨ ∃ a x xs, v = .ref a ∧ SqT K H a (x :: xs) ∧ isaT (tyN i.d) "tuple" = true ∧ decide (V.int ((x :: xs).length : Nat) = V.int 2) = i.isP := by
  cases i with
  | pr a o =>
    obtain ⟨b, x, y, e, h1, _⟩ := dp2 h
    exact .inr ⟨b, x, [y], e, h1, by simp [Itm.d, tyN, isaT], rfl⟩
  | l2 a b => exact .inl ⟨by simp [Itm.d, tyN, isaT], rfl⟩
  | li a => exact .inl ⟨by simp [Itm.d, tyN, isaT, dI], rfl⟩
  | t1 a =>
    obtain ⟨b, xs, e, h1, h2⟩ := dp_tuple h
    cases h2 with
    | cons q r =>
      cases r
      exact .inr ⟨b, _, [], e, h1, by simp [Itm.d, tyN, isaT], rfl⟩
  | non => exact .inl ⟨by simp [Itm.d, tyN, isaT], rfl⟩
theorem inR_within (bk : Bk) (n : Nat) : inR bk.d 0 ((n : Int) - 1) = within bk n := by
  cases bk with
  | num i =>
    show (decide (0 ≤ i) && decide (i ≤ (n : Int) - 1)) = (decide (0 ≤ i) && decide (i < (n : Int)))
    congr 1
    exact decide_eq_decide.mpr (by omega)
  | _ => rfl
theorem chain_all {m : Mc} {os : List (Option (List Int))} (h : chainP m os = true) : os ≠ [] ∧ os.all (areC m) = true := by
  unfold chainP at h
  rw [Bool.and_eq_true, Bool.and_eq_true] at h
  refine ⟨fun e => ?_, h.2.1⟩
  rw [e] at h
  exact Bool.false_ne_true h.1
def mkO (z : List Int × List Int) : List Int × Option (List Int) := (z.1, some z.2)
theorem pairs_split {m n : Mc} : ∀ {ps : Prs}, (fsts ps).all (areC m) = true → (snds ps).all (areC n) = true → ∃ ab : List (List Int × List Int), ps = ab.map mkO ∧ ∀ z ∈ ab, areC m (some z.1) = true ∧ areC n (some z.2) = true
  | [], _, _ => ⟨[], rfl, fun _ h => by cases h⟩
  | (a, none) :: ps, _, h => absurd (show areC n none = true ∧ _ from by rw [snds, List.map_cons, List.all_cons, Bool.and_eq_true] at h; exact h).1 Bool.false_ne_true
  | (a, some b) :: ps, h1, h2 => by
    rw [fsts, List.map_cons, List.all_cons, Bool.and_eq_true] at h1
    rw [snds, List.map_cons, List.all_cons, Bool.and_eq_true] at h2
    obtain ⟨ab, e, h⟩ := pairs_split (m := m) (n := n) h1.2 h2.2
    refine ⟨(a, b) :: ab, by rw [e]; rfl, fun z hz => ?_⟩
    rcases List.mem_cons.mp hz with rfl | hz
    · exact ⟨h1.1, h2.1⟩
    · exact h z hz
theorem nums_fst (ab : List (List Int × List Int)) : nums (fsts (ab.map mkO)) = ab.map (·.1) := by
  induction ab with
  | nil => rfl
  | cons z ab ih => show z.1 :: nums (fsts (ab.map mkO)) = _; rw [ih]; rfl
theorem nums_snd (ab : List (List Int × List Int)) : nums (snds (ab.map mkO)) = ab.map (·.2) := by
  induction ab with
  | nil => rfl
  | cons z ab ih => show z.2 :: nums (snds (ab.map mkO)) = _; rw [ih]; rfl
theorem lastR_of {ab : List (List Int × List Int)} {z : List Int × List Int} (f : List Int × List Int → List Int) (h : ab[ab.length - 1]? = some z) : lastR (ab.map f) = f z := by
  unfold lastR
  rw [List.getD_eq_getElem?_getD, List.length_map, List.getElem?_map, h]
  rfl
theorem within_num {bk : Bk} {n : Nat} (h : within bk n = true) : ∃ i : Nat, bk = .num i ∧ i < n := by
  cases bk with
  | num i =>
    have h' : (decide (0 ≤ i) && decide (i < (n : Int))) = true := h
    rw [Bool.and_eq_true, decide_eq_true_eq, decide_eq_true_eq] at h'
    exact ⟨i.toNat, by congr 1; omega, by omega⟩
  | _ => cases h
theorem atB_of {ab : List (List Int × List Int)} {z : List Int × List Int} {i : Nat} (f : List Int × List Int → List Int) (h : ab[i]? = some z) : atB (.num (i : Int)) (ab.map f) = f z := by
  show (ab.map f).getD ((i : Nat) : Int).toNat [] = _
  rw [Int.toNat_natCast, List.getD_eq_getElem?_getD, List.getElem?_map, h]
  rfl
theorem zip_fs (m n : Mc) (ab : List (List Int × List Int)) : ((((ab.map (·.1)).map (cTot m)).zip ((ab.map (·.2)).map (cTot n))).all fun xy => decide (xy.1 = xy.2) && !decide (xy.1 = 0)) = (ab.map fun z => decide (cTot m z.1 = cTot n z.2) && !decide (cTot m z.1 = 0)).all id := by
  induction ab with
  | nil => rfl
  | cons z ab ih =>
    rw [List.map_cons, List.map_cons, List.map_cons, List.map_cons, List.zip_cons_cons, List.all_cons, ih, List.map_cons, List.all_cons]
    rfl
section
variable {P : Program} {w : World} {K : PySem.W.Frag} {mg : Str → Option Value} {base : Heap} {CT CM : Addr}
def spHolds (K : PySem.W.Frag) (CT CM : Addr) : Sp := fun vs H Q _ => ∃ (x : Addr) (m n : Mc) (s : Sm) (bk : Bk), vs = [.ref x] ∧ MatchAt K CT CM H x m n s.d bk.d ∧ WF m ∧ WF n ∧ s.ok ∧ ∀ H', Same H H' → Q (.bl (hP m n s bk)) H'
theorem k_holds (R : RawM K CM "holds" "Match.holds" s_Match_holds) (T : MF K mg CM) (TT : TF K mg CT) (B : Bl mg) (F1 : Known P w K mg base "is_list" 1 ["value"] (spIsList K)) (F2 : Known P w K mg base "is_chain" 7 ["turner", "counts"] (spChain K CT))
    (F3 : Known P w K mg base "is_within" 2 ["value", "low", "high"] (spIsWithin K)) (F4 : KnownP P w K mg base CT "prime" 1 (spTPrime K CT)) (F5 : Known P w K mg base "next_counts" 6 ["turner", "counts"] (spNext K CT)) (F6 : Known P w K mg base "turn_total" 6 ["turner", "counts"] (spTotal K CT)) :
    KnownM P w K mg base CM "holds" 8 ["self"] (spHolds K CT CM) := by
  refine knownM R sc_Match_holds (fun _ _ _ _ _ _ us hl => match us, hl with | [_], _ => rfl) (fun vs H Q E h => by obtain ⟨_, _, _, _, _, rfl, _⟩ := h; rfl) (fun f cdv A outer s H vs Q E hr h => ?_)
  obtain ⟨x, m, n, s, bk, rfl, hM, hwm, hwn, hok, q⟩ := h
  have nd := sc_Match_holds.nd
  have hu := hr.units
  refine ⟨_, pss_cons (ps_asg (pe_tup (pa_cons (pe_fld (pv 0) rfl) (pa_cons (pe_fld (pv 0) rfl) (pa_cons (pe_fld (pv 0) rfl) (pa_cons (pe_fld (pv 0) rfl) pa_nil)))))
      (pg_tup rfl (pgs_cons (pg_name (i := 1) nd rfl (.inr rfl)) (pgs_cons (pg_name (i := 2) nd rfl (.inr rfl)) (pgs_cons (pg_name (i := 3) nd rfl (.inl rfl)) (pgs_cons (pg_name (i := 4) nd rfl (.inl rfl)) pgs_nil))))))
    (pss_cons (ps_if (PW.pt (pw_or (pt_not (pt_val (pk (F1.mono (by decide : 1 ≤ 7)) hr (by rfl) (pa_cons (pv 3) pa_nil)))) (pw_or1 (pt_not (pt_val (pe_callB (cr_all rfl) (by rfl) B.all (by decide +kernel) (pa_cons
        (pe_lc (own := [("pair", 6)]) (g := gName 6) (tt := tYes) rfl nd (pi_seq (pv 3)) (blkOk_by (N := N_Match_holds) (sc := defScope s_Match_holds) (by decide +kernel)) (fun _ _ _ _ _ => pg_name (i := 6) nd rfl (Or.inl rfl)) (fun _ _ _ _ _ => pts_nil)
          (fun _ _ _ _ _ => pe_and (pe_callB (cIsi (K := K)) (by rfl) B.isi (by decide +kernel) (pa_cons (pv 6) (pa_cons (pe_bltn (v := .ty "tuple") (by rfl) B.tuple (by decide +kernel) rfl) pa_nil)))
            (pe_one (pe_cmpR op_eq (pe_callB (cLen (K := K)) (by rfl) B.len PySem.boot_len (pa_cons (pv 6) pa_nil)) pe_int (nomark _))))) pa_nil))))))) (pss_one (ps_ret pe_bl)) pss_nil)
    (pss_cons (ps_if (PW.pt (pw_or (pt_not (pt_val (pk F2 hr (by rfl) (pa_cons (pv 1) (pa_cons
        (pe_lc (own := [("pair", 6)]) (g := gName 6) (tt := tYes) rfl nd (pi_seq (pv 3)) (blkOk_by (N := N_Match_holds) (sc := defScope s_Match_holds) (by decide +kernel)) (fun _ _ _ _ _ => pg_name (i := 6) nd rfl (Or.inl rfl)) (fun _ _ _ _ _ => pts_nil)
          (fun _ _ _ _ _ => pe_ix (ixT (K := K)) (pv 6) pe_int (fun _ _ => rfl))) pa_nil)))))
      (pw_or1 (pt_not (pt_val (pk F2 hr (by rfl) (pa_cons (pv 2) (pa_cons
        (pe_lc (own := [("pair", 6)]) (g := gName 6) (tt := tYes) rfl nd (pi_seq (pv 3)) (blkOk_by (N := N_Match_holds) (sc := defScope s_Match_holds) (by decide +kernel)) (fun _ _ _ _ _ => pg_name (i := 6) nd rfl (Or.inl rfl)) (fun _ _ _ _ _ => pts_nil)
          (fun _ _ _ _ _ => pe_ix (ixT (K := K)) (pv 6) pe_int (fun _ _ => rfl))) pa_nil)))))))) (pss_one (ps_ret pe_bl)) pss_nil)
    (pss_cons (ps_if (PW.pt (pw_or (pt_not (pt_val (pk (F3.mono (by decide : 2 ≤ 7)) hr (by rfl) (pa_cons (pv 4) (pa_cons pe_int (pa_cons (pe_op op_sub (pe_callB call_len_seq (by rfl) B.len PySem.boot_len (pa_cons (pv 3) pa_nil)) pe_int) pa_nil))))))
      (pw_or1 (pt_cmpR op_ne (pkp (pv 1) TT.cl F4 (hr.mono (by decide))) (pkp (pv 2) TT.cl F4 (hr.mono (by decide))) (nomark _))))) (pss_one (ps_ret pe_bl)) pss_nil)
    (pss_cons (ps_if (pt_cmpR (op_neD hu) (pk (F5.mono (by decide : 6 ≤ 7)) hr (by rfl) (pa_cons (pv 1) (pa_cons (pe_ix ix_tup (pe_ix ixA (pv 3) (pe_un un_neg pe_int) (fun _ _ => rfl)) pe_int (fun _ _ => rfl)) pa_nil)))
      (pe_callTy call_list_of (by rfl) B.list (by decide +kernel) (pa_cons (pe_ix ix_tup (pe_ix ixA (pv 3) (pv 4) (fun _ _ => rfl)) pe_int (fun _ _ => rfl)) pa_nil)) (nomark _)) (pss_one (ps_ret pe_bl)) pss_nil)
    (pss_cons (ps_if (pt_cmpR (op_neD hu) (pk (F5.mono (by decide : 6 ≤ 7)) hr (by rfl) (pa_cons (pv 2) (pa_cons (pe_ix ix_tup (pe_ix ixA (pv 3) (pe_un un_neg pe_int) (fun _ _ => rfl)) pe_int (fun _ _ => rfl)) pa_nil)))
      (pe_callTy call_list_of (by rfl) B.list (by decide +kernel) (pa_cons (pe_ix ix_tup (pe_ix ixA (pv 3) (pv 4) (fun _ _ => rfl)) pe_int (fun _ _ => rfl)) pa_nil)) (nomark _)) (pss_one (ps_ret pe_bl)) pss_nil)
    (pss_cons (ps_setLc (i := 5) (own := [("mine", 7), ("its", 8)]) (g := gTup K 2 (gCons (gName 7) (gCons (gName 8) gNil))) (tt := tYes) rfl nd rfl rfl (sw_true rfl rfl rfl (by decide +kernel)) (pi_seq (pv 3)) (blkOk_by (N := N_Match_holds) (sc := defScope s_Match_holds) (by decide +kernel))
        (fun _ _ _ _ _ => pg_tup rfl (pgs_cons (pg_name (i := 7) nd rfl (.inl rfl)) (pgs_cons (pg_name (i := 8) nd rfl (.inl rfl)) pgs_nil))) (fun _ _ _ _ _ => pts_nil)
        (fun _ _ _ _ _ => pe_tup (pa_cons (pk (F6.mono (by decide : 6 ≤ 7)) hr (by rfl) (pa_cons (pv 1) (pa_cons (pv 7) pa_nil))) (pa_cons (pk (F6.mono (by decide : 6 ≤ 7)) hr (by rfl) (pa_cons (pv 2) (pa_cons (pv 8) pa_nil))) pa_nil))))
    (pss_one (ps_ret (pe_callB (cr_all rfl) (by rfl) B.all (by decide +kernel) (pa_cons
      (pe_lc (own := [("mine", 7), ("its", 8)]) (g := gTup K 2 (gCons (gName 7) (gCons (gName 8) gNil))) (tt := tYes) rfl nd (pi_list (pv 5)) (blkOk_by (N := N_Match_holds) (sc := defScope s_Match_holds) (by decide +kernel))
        (fun _ _ _ _ _ => pg_tup rfl (pgs_cons (pg_name (i := 7) nd rfl (.inl rfl)) (pgs_cons (pg_name (i := 8) nd rfl (.inl rfl)) pgs_nil))) (fun _ _ _ _ _ => pts_nil)
        (fun _ _ _ _ _ => pe_and (pe_cmpR op_eq (pv 7) (pv 8) (nomark _)) (pe_one (pe_cmpR op_ne (pv 7) pe_int (nomark _))))) pa_nil)))))))))), ?_⟩
  obtain ⟨dx, xa, xb, vp, vb, h1, h2, h3, h4, h5⟩ := id hM
  refine ⟨_, rfl, x, CM, dx, _, _, rfl, h1, T.cl, T.n1, mf_1 _ _ _ _, _, rfl, x, CM, dx, _, _, rfl, h1, T.cl, T.n2, mf_2 _ _ _ _, _, rfl, x, CM, dx, _, _, rfl, h1, T.cl, T.n3, mf_3 _ _ _ _, _, rfl, x, CM, dx, _, _, rfl, h1, T.cl, T.n4, mf_4 _ _ _ _, (by show 4 ≤ sizeLine; decide), fun t ht => ⟨t, _, rfl, SqT.of upd_same, rfl, _, _, rfl, _, _, rfl, _, _, rfl, _, _, rfl, rfl, ?_⟩⟩
  have e0 : Same H (upd H t (.tup [.ref xa, .ref xb, vp, vb])) := (Same.refl H).new ht
  generalize upd H t (.tup [.ref xa, .ref xb, vp, vb]) = H0 at *
  have hv0 := sm e0 h4
  refine ⟨_, rfl, vp, _, rfl, hv0, fun H1 e1 => ⟨_, rfl, ?_⟩⟩
  have e01 := e0.trans e1
  rcases sd_seq (m := m) (n := n) (bk := bk) (sm e1 hv0) hok with ⟨hs, hp⟩ | ⟨is, a, xs, rfl, hA, hda, hs, hp, hlen, hoks⟩
  · rw [hs]
    rw [hp] at q
    exact iteT (iteT (q H1 e01))
  rw [hs]
  have hxl : xs.length = is.length := by rw [dpa_len hda, List.length_map]
  refine iteF ⟨_, rfl, a, rfl, iSeq_of hA fun J G W hG => fun D hD => lc_ys W sameAt hD (by omega) ((is.map Itm.isP).map V.bl) (by simp; omega) hG (fun i y z H3 H4 hz e hy Q' hq => ?_) fun H2 e2 hD2 => ⟨D, is.map Itm.isP, rfl, SqL.of hD2, _, rfl, ?_⟩⟩
  · obtain ⟨rfl, hy⟩ := hy
    obtain ⟨b, hb, rfl⟩ := ns_get hz
    rw [List.getElem?_map] at hb
    cases ho : is[i]? with
    | none => rw [ho] at hb; cases hb
    | some it =>
      rw [ho] at hb
      cases hb
      obtain ⟨y', hy', hd⟩ := dpa_get hda (i := i) (d := it.d) (by rw [List.getElem?_map, ho]; rfl)
      rw [hy] at hy'
      cases hy'
      have hd3 := sm e hd
      refine ⟨rfl, _, rfl, y, .ty "tuple", _, _, _, rfl, .ty _, dp_ty hd3, kit_dp hd3, _, rfl, ?_⟩
      rcases itm_isP hd3 with ⟨k1, k2⟩ | ⟨a', x', xs', rfl, k1, k2, k3⟩
      · rw [k1]
        rw [k2] at hq
        exact iteF (hq _ (Same.refl _))
      · rw [k2]
        rw [← k3] at hq
        exact iteT ⟨_, rfl, a', _, rfl, .inr k1, rfl, hq _ (Same.refl _)⟩
  have e12 : Same H1 H2 := e2.trans hide_same
  have e02 := e01.trans e12
  have eall : (is.map Itm.isP).all id = is.all Itm.isP := by rw [List.all_map]; rfl
  rw [eall]
  cases hall : is.all Itm.isP with
  | false =>
    have := q H2 e02
    rw [hp] at this
    unfold hPi at this
    rw [hall] at this
    exact iteT this
  | true =>
  refine iteF ?_
  have hpq : hP m n s bk = holdsP m n (prsI is) bk := by
    rw [hp]
    unfold hPi
    rw [hall]
    rfl
  rw [hpq] at q
  have his := all_mkP hall
  generalize prsI is = ps at *
  subst his
  clear hp hpq eall hall hs
  have hpl : ps.length ≤ 1000 := by rw [List.length_map] at hlen; exact hlen
  have hxp : xs.length = ps.length := by rw [hxl, List.length_map]
  have hat : ∀ {i : Nat} {y : V}, xs[i]? = some y → ∃ p b u v, ps[i]? = some p ∧ y = .ref b ∧ SqT K H1 b [u, v] ∧ Dp K H1 u (dI p.1) ∧ Dp K H1 v (oD p.2) := by
    intro i y hy
    have hi : i < ps.length := by rw [← hxp]; exact (List.getElem?_eq_some_iff.mp hy).1
    obtain ⟨y', hy', hd⟩ := dpa_get hda (i := i) (d := (mkP ps[i]).d) (by rw [List.getElem?_map, List.getElem?_map, List.getElem?_eq_getElem hi]; rfl)
    rw [hy] at hy'
    cases hy'
    obtain ⟨b, u, v, k0, k1, k2, k3⟩ := dp2 hd
    exact ⟨_, b, u, v, List.getElem?_eq_getElem hi, k0, k1, k2, k3⟩
  have hpok : ∀ p ∈ ps, p.1.length ≤ 100000 ∧ ∀ b, p.2 = some b → b.length ≤ 100000 := fun p hp => hoks (mkP p) (List.mem_map_of_mem hp)
  refine ⟨_, rfl, _, rfl, a, rfl, iSeq_of (e12.sqa hA) fun J G W hG => fun D1 hD1 => lc_gen W sameAt hD1 (by omega) (fun i v H => ∀ p, ps[i]? = some p → Dp K H v (dI p.1)) (fun i v H H' e h p hp => sm e (h p hp)) hG (fun i y H3 H4 hi e hDD hy Q' hq => ?_) fun H3 acc e3 hacc hal hR => ?_⟩
  · obtain ⟨rfl, hy⟩ := hy
    obtain ⟨p, b, u, v, k1, rfl, k3, k4, k5⟩ := hat hy
    refine ⟨rfl, _, rfl, b, _, _, _, rfl, rfl, Same.tup ((e12.trans e).trans hide_same) k3, at_of (j := 0) rfl rfl, hq _ _ (Same.refl _) fun p' hp' => ?_⟩
    rw [k1] at hp'
    cases hp'
    exact sm (e12.trans e) k4
  have e13 : Same H1 H3 := e12.trans (e3.trans hide_same)
  have e03 := e01.trans e13
  have hA3 : DpAll K H3 acc ((fsts ps).map oD) := dpa_of (by rw [hal, List.length_map, fsts, List.length_map]; omega) fun i v d h1 h2 => by
    rw [List.getElem?_map, fsts, List.getElem?_map] at h2
    cases hi : ps[i]? with
    | none => rw [hi] at h2; cases h2
    | some p =>
      rw [hi] at h2
      cases h2
      exact sm hide_same (hR i v h1 p hi)
  refine ⟨xa, m, .ref D1, fsts ps, rfl, h2.same e03, hwm, .lst (SqL.of hacc) hA3, by rw [fsts, List.length_map]; exact hpl, fun ns hns => ?_, fun H4 e4 => ⟨_, rfl, ?_⟩⟩
  · obtain ⟨p, hp, e⟩ := List.mem_map.mp hns
    cases e
    exact (hpok p hp).1
  have e04 := e03.trans e4
  have e14 := e13.trans e4
  cases hc1 : chainP m (fsts ps) with
  | false =>
    have := q H4 e04
    unfold holdsP at this
    rw [hc1] at this
    exact iteT (iteT this)
  | true =>
  refine iteF ⟨_, rfl, _, rfl, a, rfl, iSeq_of (e14.sqa hA) fun J G W hG => fun D2 hD2 => lc_gen W sameAt hD2 (by omega) (fun i v H => ∀ p, ps[i]? = some p → Dp K H v (oD p.2)) (fun i v H H' e h p hp => sm e (h p hp)) hG (fun i y H3 H4 hi e hDD hy Q' hq => ?_) fun H5 acc2 e5 hacc2 hal2 hR2 => ?_⟩
  · obtain ⟨rfl, hy⟩ := hy
    obtain ⟨p, b, u, v, k1, rfl, k3, k4, k5⟩ := hat hy
    refine ⟨rfl, _, rfl, b, _, _, _, rfl, rfl, Same.tup ((e14.trans e).trans hide_same) k3, at_of (j := 1) rfl rfl, hq _ _ (Same.refl _) fun p' hp' => ?_⟩
    rw [k1] at hp'
    cases hp'
    exact sm (e14.trans e) k5
  have e15 : Same H1 H5 := e14.trans (e5.trans hide_same)
  have e05 := e01.trans e15
  have hA5 : DpAll K H5 acc2 ((snds ps).map oD) := dpa_of (by rw [hal2, List.length_map, snds, List.length_map]; omega) fun i v d h1 h2 => by
    rw [List.getElem?_map, snds, List.getElem?_map] at h2
    cases hi : ps[i]? with
    | none => rw [hi] at h2; cases h2
    | some p =>
      rw [hi] at h2
      cases h2
      exact sm hide_same (hR2 i v h1 p hi)
  refine ⟨xb, n, .ref D2, snds ps, rfl, h3.same e05, hwn, .lst (SqL.of hacc2) hA5, by rw [snds, List.length_map]; exact hpl, fun ns hns => ?_, fun H6 e6 => ⟨_, rfl, ?_⟩⟩
  · obtain ⟨p, hp, e⟩ := List.mem_map.mp hns
    exact (hpok p hp).2 _ e
  have e06 := e05.trans e6
  have e16 := e15.trans e6
  cases hc2 : chainP n (snds ps) with
  | false =>
    have := q H6 e06
    unfold holdsP at this
    rw [hc1, hc2] at this
    exact iteT this
  | true =>
  have hq0 : holdsP m n ps bk = (within bk ps.length && (decide (m.p = n.p) &&
    (decide (cNext m (lastR (nums (fsts ps))) = atB bk (nums (fsts ps))) && (decide (cNext n (lastR (nums (snds ps))) = atB bk (nums (snds ps))) &&
      (((nums (fsts ps)).map (cTot m)).zip ((nums (snds ps)).map (cTot n))).all fun xy => decide (xy.1 = xy.2) && !decide (xy.1 = 0))))) := by
    unfold holdsP
    rw [hc1, hc2, Bool.true_and, Bool.true_and]
  rw [hq0] at q
  refine iteF ⟨_, rfl, _, rfl, a, _, rfl, e16.sqa hA, _, _, rfl, rfl, vb, _, _, _, rfl, sm e06 h5, _, rfl, ?_⟩
  rw [inR_within, hxp]
  cases hw : within bk ps.length with
  | false =>
    have := q H6 e06
    rw [hw] at this
    exact iteT (iteT this)
  | true =>
  rw [hw, Bool.true_and] at q
  obtain ⟨dA, lA, xA, t1, t2, t3, t4⟩ := id (h2.same e06)
  obtain ⟨dB, lB, xB, u1, u2, u3, u4⟩ := id (h3.same e06)
  refine iteF ⟨_, rfl, xa, dA, _, rfl, t1, xa, m, rfl, h2.same e06, _, rfl, xb, dB, _, rfl, u1, xb, n, rfl, h3.same e06, rfl, _, rfl, ?_⟩
  rcases Nat.decEq m.p n.p with hpp | hpp
  · have ed : (!decide (V.int (m.p : Int) = V.int (n.p : Int))) = true := by
      rw [decide_eq_false (fun e => hpp (by injection e with e; omega))]
      rfl
    have := q H6 e06
    rw [decide_eq_false hpp] at this
    exact ifT ed this
  have ed : (!decide (V.int (m.p : Int) = V.int (n.p : Int))) = false := by
    rw [decide_eq_true (by rw [hpp])]
    rfl
  rw [decide_eq_true hpp, Bool.true_and] at q
  refine ifF ed ?_
  obtain ⟨ab, rfl, hab⟩ := pairs_split (chain_all hc1).2 (chain_all hc2).2
  rw [List.length_map] at hpl hxp hw
  rw [nums_fst, nums_snd] at q
  obtain ⟨ib, rfl, hib⟩ := within_num hw
  have hbk := dp_int (show Dp K H vb (.int ib) from h5)
  subst hbk
  have hat2 : ∀ {i : Nat} {z}, ab[i]? = some z → ∃ b u v, xs[i]? = some (.ref b) ∧ SqT K H1 b [u, v] ∧ Dp K H1 u (dI z.1) ∧ Dp K H1 v (dI z.2) := by
    intro i z hz
    have hi : i < ab.length := (List.getElem?_eq_some_iff.mp hz).1
    have hx : xs[i]? = some xs[i] := List.getElem?_eq_getElem (by omega)
    obtain ⟨p, b, u, v, k1, k2, k3, k4, k5⟩ := hat hx
    rw [List.getElem?_map, hz] at k1
    cases k1
    exact ⟨b, u, v, by rw [hx, k2], k3, k4, k5⟩
  have hne : 0 < ab.length := by omega
  obtain ⟨zl, hzl⟩ : ∃ z, ab[ab.length - 1]? = some z := ⟨_, List.getElem?_eq_getElem (by omega)⟩
  obtain ⟨zb, hzb⟩ : ∃ z, ab[ib]? = some z := ⟨_, List.getElem?_eq_getElem hib⟩
  rw [lastR_of (·.1) hzl, lastR_of (·.2) hzl, atB_of (·.1) hzb, atB_of (·.2) hzb, zip_fs] at q
  obtain ⟨bl, ul, vl, l1, l2, l3, l4⟩ := hat2 hzl
  obtain ⟨bb, ub, vbb, b1, b2, b3, b4⟩ := hat2 hzb
  obtain ⟨okl1, okl2⟩ := hab zl (List.mem_of_getElem? hzl)
  have l1' : xs[xs.length - 1]? = some (.ref bl) := by rw [hxp]; exact l1
  have one := fun {H : Hp} (e : Same H1 H) {Q : VK} (q : Q (.ref bl) H) => ixA_of (K := K) (H := H) (e.sqa hA) (atI_neg1 l1') q
  have two := fun {H : Hp} (e : Same H1 H) {Q : VK} (q : Q (.ref bb) H) => ixA_of (K := K) (H := H) (i := (ib : Int)) (e.sqa hA) (at_of (j := ib) rfl b1) q
  obtain ⟨cl, rfl, hcl⟩ := dI_un b3
  obtain ⟨dl, rfl, hdl⟩ := dI_un b4
  refine ⟨_, rfl, _, rfl, _, rfl, one e16 ⟨bl, _, _, _, rfl, rfl, Same.tup e16 l2, at_of (j := 0) rfl rfl, xa, m, _, zl.1, rfl, ⟨h2.same e06, hwm, sm e16 l3, okl1⟩, fun lN H7 hlN e7 hH7 => ?_⟩⟩
  have e17 := e16.trans e7
  have e07 := e06.trans e7
  refine ⟨_, rfl, _, rfl, two e17 ⟨bb, _, _, _, rfl, rfl, Same.tup e17 b2, at_of (j := 0) rfl rfl, cl, _, rfl, .inl (e17.seq hcl), fun lC hlC => ?_⟩⟩
  have e78 : Same H7 (upd H7 lC (.lst (zb.1.map V.int))) := (Same.refl _).new hlC
  have hC8 : (upd H7 lC (.lst (zb.1.map V.int))) lC = some (.lst (zb.1.map V.int)) := upd_same
  generalize upd H7 lC (.lst (zb.1.map V.int)) = H8 at *
  refine ⟨dI (cNext m zl.1), dI zb.1, dI_mk (SqL.of (e78 _ _ hH7)), dI_mk (SqL.of hC8), shaped_dI _, shaped_dI _, _, rfl, ?_⟩
  rw [eqv_dI]
  have e18 := e17.trans e78
  have e08 := e07.trans e78
  cases hd1 : decide (cNext m zl.1 = zb.1) with
  | false =>
    have := q H8 e08
    rw [hd1] at this
    exact iteT this
  | true =>
  rw [hd1, Bool.true_and] at q
  refine iteF ⟨_, rfl, _, rfl, _, rfl, one e18 ⟨bl, _, _, _, rfl, rfl, Same.tup e18 l2, at_of (j := 1) rfl rfl, xb, n, _, zl.2, rfl, ⟨h3.same e08, hwn, sm e18 l4, okl2⟩, fun lM H9 hlM e9 hH9 => ?_⟩⟩
  have e19 := e18.trans e9
  have e09 := e08.trans e9
  refine ⟨_, rfl, _, rfl, two e19 ⟨bb, _, _, _, rfl, rfl, Same.tup e19 b2, at_of (j := 1) rfl rfl, dl, _, rfl, .inl (e19.seq hdl), fun lD hlD => ?_⟩⟩
  have e9a : Same H9 (upd H9 lD (.lst (zb.2.map V.int))) := (Same.refl _).new hlD
  have hCa : (upd H9 lD (.lst (zb.2.map V.int))) lD = some (.lst (zb.2.map V.int)) := upd_same
  generalize upd H9 lD (.lst (zb.2.map V.int)) = Ha at *
  refine ⟨dI (cNext n zl.2), dI zb.2, dI_mk (SqL.of (e9a _ _ hH9)), dI_mk (SqL.of hCa), shaped_dI _, shaped_dI _, _, rfl, ?_⟩
  rw [eqv_dI]
  have e1a := e19.trans e9a
  have e0a := e09.trans e9a
  cases hd2 : decide (cNext n zl.2 = zb.2) with
  | false =>
    have := q Ha e0a
    rw [hd2] at this
    exact iteT this
  | true =>
  rw [hd2, Bool.true_and] at q
  refine iteF ⟨_, rfl, a, rfl, iSeq_of (e1a.sqa hA) fun J G W hG => fun Dt hDt => lc_gen W sameAt hDt (by omega) (fun i v H => ∀ z, ab[i]? = some z → ∃ T, v = .ref T ∧ SqT K H T [.int (cTot m z.1), .int (cTot n z.2)]) (fun i v H H' e h z hz => by obtain ⟨T, k1, k2⟩ := h z hz; exact ⟨T, k1, Same.tup e k2⟩) hG (fun i y H3 H4 hi e hDD hy Q' hq => ?_) fun Hb acct eb hacct halt hRt => ?_⟩
  · obtain ⟨rfl, hy⟩ := hy
    obtain ⟨accD, haccD⟩ := hDD
    obtain ⟨z, hz⟩ : ∃ z, ab[i]? = some z := ⟨_, List.getElem?_eq_getElem (by omega)⟩
    obtain ⟨b, u, v, k1, k3, k4, k5⟩ := hat2 hz
    rw [hy] at k1
    cases k1
    obtain ⟨ok1, ok2⟩ := hab z (List.mem_of_getElem? hz)
    have e14 := e1a.trans (e.trans hide_same)
    have e04 := e0a.trans (e.trans hide_same)
    refine ⟨b, _, rfl, Same.tup e14 k3, rfl, _, _, rfl, _, _, rfl, rfl, rfl, _, rfl, _, rfl, xa, m, _, z.1, rfl, ⟨h2.same e04, hwm, sm e14 k4, ok1⟩, fun H5 e5 => ⟨_, rfl, _, rfl, xb, n, _, z.2, rfl, ⟨h3.same (e04.trans e5), hwn, sm (e14.trans e5) k5, ok2⟩, fun H6 e6 => ⟨by show 2 ≤ sizeLine; decide, fun T hT => hq _ _ ((e5.trans e6).new hT) fun z' hz' => ?_⟩⟩⟩
    rw [hz] at hz'
    cases hz'
    refine ⟨T, rfl, SqT.of ?_⟩
    have hne2 : T ≠ Dt := fun ab => by
      rw [ab] at hT
      rw [e6 _ _ (e5 _ _ haccD)] at hT
      cases hT
    rw [hide_ne hne2, upd_same]
  have e0b := e0a.trans (eb.trans hide_same)
  refine ⟨_, rfl, Dt, rfl, ⟨_, SqL.of hacct⟩, fun De hDe => lc_ys (walk_list (xs := acct)) sameAt hDe (by omega) ((ab.map fun z => decide (cTot m z.1 = cTot n z.2) && !decide (cTot m z.1 = 0)).map V.bl) (by simp; omega) (fun H e => e.seq (SqL.of hacct)) (fun i y z H3 H4 hz e hy Q' hq => ?_) fun Hc ec hDc => ⟨De, _, rfl, SqL.of hDc, ?_⟩⟩
  · obtain ⟨rfl, hy⟩ := hy
    obtain ⟨b, hb, rfl⟩ := ns_get hz
    obtain ⟨zz, hzz, rfl⟩ : ∃ zz, ab[i]? = some zz ∧ b = (decide (cTot m zz.1 = cTot n zz.2) && !decide (cTot m zz.1 = 0)) := by
      rw [List.getElem?_map] at hb
      cases e : ab[i]? with
      | none => rw [e] at hb; cases hb
      | some c => rw [e] at hb; exact ⟨c, rfl, (Option.some.inj hb).symm⟩
    obtain ⟨T, rfl, hT⟩ := hRt i y hy zz hzz
    refine ⟨T, _, rfl, Same.tup (hide_same.trans e) hT, rfl, _, _, rfl, _, _, rfl, rfl, rfl, _, rfl, _, rfl, rfl, _, rfl, ?_⟩
    rcases Int.decEq (cTot m zz.1) (cTot n zz.2) with hne | heq
    · have ed : decide (V.int (cTot m zz.1) = V.int (cTot n zz.2)) = false := decide_eq_false fun e => hne (by injection e)
      rw [decide_eq_false hne] at hq
      exact ifF ed (hq _ (Same.refl _))
    · have ed : decide (V.int (cTot m zz.1) = V.int (cTot n zz.2)) = true := decide_eq_true (by rw [heq])
      rw [decide_eq_true heq, Bool.true_and] at hq
      have ee : decide (V.int (cTot m zz.1) = V.int 0) = decide (cTot m zz.1 = 0) := decide_eq_decide.mpr ⟨fun e => by injection e, fun e => by rw [e]⟩
      refine ifT ed ⟨_, rfl, rfl, ?_⟩
      rw [ee]
      exact hq _ (Same.refl _)
  · exact q Hc (e0b.trans (ec.trans hide_same))
end
end L2.K55
namespace L2.K55
open PySem PySem.Spec PyProof.Rows
theorem Same.tupS {K : PySem.W.Frag} {H H' : Hp} {x C dx : Addr} {fs : List (Str × V)} {a : Addr} {xs : List V} (hx : H x = some (.ins C dx fs)) (e : ∀ a o, a ≠ x → H a = some o → H' a = some o) : SS H H' :=
  fun b o hno ho => e b o (fun ab => by rw [ab, hx] at ho; exact hno _ _ _ (Option.some.inj ho).symm) ho
structure PrimesAt (K : PySem.W.Frag) (mg : Str → Option Value) : Prop where
  ex : ∃ a, mg "PRIMES" = some (.ref a) ∧ ∀ H, SqT K H a [.int 2, .int 3, .int 5, .int 7]
structure TC (K : PySem.W.Frag) (C : Addr) : Prop where
  ex : ∃ mc u, ClX.CRead K C mc ∧ ClX.CVal K C mc "MOST" (.int 240) u
structure TE1 (K : PySem.W.Frag) (C : Addr) : Prop where
  ha : PySem.W.findIn K (.ref C) "__class__" = some (some (.builtin "object.__class__"))
  hn : PySem.W.specialIn K (.builtin "object.__class__") "__get__" = some (some (.builtin "getset_descriptor.__get__"))
  htk : PySem.W.takesIn K (.builtin "object.__class__") = some true
  hm : PySem.W.mroIn K C (.type "object") = some true
  hk : PySem.W.kitOne K (.ref C) (.ref C) = some true
theorem prime_in {p : Nat} (h : p = 2 ∨ p = 3 ∨ p = 5 ∨ p = 7) : inV (.int p) [.int 2, .int 3, .int 5, .int 7] = true := by
  rcases h with rfl | rfl | rfl | rfl <;> decide
theorem lay_nats : ∀ a : List Nat, PyData.canLayAll0 (a.map fun (g : Nat) => PyData.int (g : Int)) = true
  | [] => by simp [PyData.canLayAll0]
  | a :: as => by simp [PyData.canLayAll0, PyData.canLay0, lay_nats as]
theorem depth_nats : ∀ a : List Nat, PyData.depthAll (a.map fun (g : Nat) => PyData.int (g : Int)) = 0
  | [] => by simp [PyData.depthAll]
  | a :: as => by simp [PyData.depthAll, PyData.depth, depth_nats as]
theorem lay_rows : ∀ rs : List (Int × List Nat), PyData.canLayAll0 (rs.map dRow) = true
  | [] => by simp [PyData.canLayAll0]
  | r :: rs => by simp [PyData.canLayAll0, PyData.canLay0, dRow, lay_rows rs, lay_nats]
theorem depth_rows : ∀ rs : List (Int × List Nat), PyData.depthAll (rs.map dRow) ≤ 2
  | [] => by simp [PyData.depthAll]
  | r :: rs => by
    have := depth_rows rs
    have h : PyData.depth (dRow r) = 2 := by simp [dRow, PyData.depthAll, PyData.depth, depth_nats]
    rw [List.map_cons, PyData.depthAll, h]
    exact Nat.max_le.mpr ⟨Nat.le_refl _, this⟩
theorem shaped_rows (rs : List (Int × List Nat)) : SeqAt.shaped (.list (rs.map dRow)) = true := by
  show (PyData.canLay0 (.list (rs.map dRow)) && decide (PyData.depth (.list (rs.map dRow)) ≤ 64)) = true
  rw [PyData.canLay0, PyData.depth, lay_rows, Bool.true_and]
  exact decide_eq_true (by have := depth_rows rs; omega)
section
variable {P : Program} {w : World} {K : PySem.W.Frag} {mg : Str → Option Value} {base : Heap} {C : Addr}
def isPrm (p : Nat) : Prop := p = 2 ∨ p = 3 ∨ p = 5 ∨ p = 7
def spIsPrime : Sp := fun vs H Q _ => ∃ (p : Nat), vs = [.int p] ∧ isPrm p ∧ Q (.bl true) H
theorem k_is_prime (R : Raw K mg "is_prime" s_is_prime) (PA : PrimesAt K mg) (F1 : Known P w K mg base "is_number" 1 ["value"] (spIsNumber K)) : Known P w K mg base "is_prime" 2 ["value"] spIsPrime := by
  refine known R sc_is_prime (fun _ _ _ _ _ _ us hl => match us, hl with | [_], _ => rfl) (fun vs H Q E h => by obtain ⟨_, rfl, _⟩ := h; rfl) (fun f cdv A outer s H vs Q E hr h => ?_)
  obtain ⟨p, rfl, hp, q⟩ := h
  obtain ⟨a, ha, hq⟩ := PA.ex
  refine ⟨_, pss_one (ps_ret (pe_and (pk F1 hr (by rfl) (pa_cons (pv 0) pa_nil)) (pe_one (pe_cmpR op_in_seq (pv 0) (pe_glob (v := .ref a) (by rfl) ha rfl) (by rfl))))), ?_⟩
  refine ⟨_, rfl, .int p, .int p, rfl, .int p, _, rfl, iteT ⟨_, rfl, a, _, rfl, .inr (hq _), rfl, rfl, ?_⟩⟩
  rw [prime_in hp]
  exact q
def spNeedPrime : Sp := fun vs H Q _ => ∃ (p : Nat), vs = [.int p] ∧ isPrm p ∧ Q .non H
theorem k_need_prime (R : Raw K mg "need_prime" s_need_prime) (F1 : Known P w K mg base "is_prime" 2 ["value"] spIsPrime) : Known P w K mg base "need_prime" 3 ["value"] spNeedPrime := by
  refine known R sc_need_prime (fun _ _ _ _ _ _ us hl => match us, hl with | [_], _ => rfl) (fun vs H Q E h => by obtain ⟨_, rfl, _⟩ := h; rfl) (fun f cdv A outer s H vs Q E hr h => ?_)
  obtain ⟨p, rfl, hp, q⟩ := h
  refine ⟨_, pss_one (ps_if (pt_not (pt_val (pk F1 hr (by rfl) (pa_cons (pv 0) pa_nil)))) pss_never pss_nil), ?_⟩
  exact ⟨_, rfl, p, rfl, hp, _, rfl, iteF q⟩
structure RowOk (p many : Nat) (r : Int × List Nat) : Prop where
  t0 : 0 ≤ r.1
  t1 : r.1 < (p : Int)
  len : r.2.length = p
  goal : ∀ g ∈ r.2, g < many
def spIsState (K : PySem.W.Frag) : Sp := fun vs H Q _ => ∃ (p many : Nat) (v : V) (r : Int × List Nat), vs = [.int p, v, .int many] ∧ isPrm p ∧ Dp K H v (dRow r) ∧ RowOk p many r ∧ ∀ H', Same H H' → Q (.bl true) H'
theorem k_is_state (R : Raw K mg "is_state" s_is_state) (B : Bl mg) (F1 : Known P w K mg base "is_figure" 3 ["prime", "value"] (spIsFigure K)) (F2 : Known P w K mg base "is_within" 2 ["value", "low", "high"] (spIsWithin K)) :
    Known P w K mg base "is_state" 4 ["prime", "value", "many"] (spIsState K) := by
  refine known R sc_is_state (fun _ _ _ _ _ _ us hl => match us, hl with | [_, _, _], _ => rfl) (fun vs H Q E h => by obtain ⟨_, _, _, _, rfl, _⟩ := h; rfl) (fun f cdv A outer s H vs Q E hr h => ?_)
  obtain ⟨p, many, v, r, rfl, hp, hv, hok, q⟩ := h
  have nd := sc_is_state.nd
  have hp7 : 2 ≤ p ∧ p ≤ 7 := by rcases hp with e | e | e | e <;> omega
  refine ⟨_, pss_cons (ps_if (PW.pt (pw_or (pt_not (pt_val (pe_callB call_isi (by rfl) B.isi (by decide +kernel) (pa_cons (pv 1) (pa_cons (pe_bltn (v := .ty "tuple") (by rfl) B.tuple (by decide +kernel) rfl) pa_nil)))))
      (pw_or (pt_cmpR op_ne (pe_callB call_len_seq (by rfl) B.len PySem.boot_len (pa_cons (pv 1) pa_nil)) pe_int (nomark _))
      (pw_or1 (pt_not (pt_val (pk F1 hr (by rfl) (pa_cons (pv 0) (pa_cons (pe_ix ix_tup (pv 1) pe_int (fun _ _ => rfl)) pa_nil))))))))) (pss_one (ps_ret pe_bl)) pss_nil)
    (pss_cons (ps_set (i := 3) nd rfl (Or.inl rfl) (pe_ix ix_tup (pv 1) pe_int (fun _ _ => rfl)))
    (pss_cons (ps_if (PW.pt (pw_or (pt_not (pt_val (pe_callB call_isi (by rfl) B.isi (by decide +kernel) (pa_cons (pv 3) (pa_cons (pe_bltn (v := .ty "tuple") (by rfl) B.tuple (by decide +kernel) rfl) pa_nil)))))
      (pw_or1 (pt_cmpR op_ne (pe_callB call_len_seq (by rfl) B.len PySem.boot_len (pa_cons (pv 3) pa_nil)) (pv 0) (nomark _))))) (pss_one (ps_ret pe_bl)) pss_nil)
    (pss_one (ps_ret (pe_callB (cr_all rfl) (by rfl) B.all (by decide +kernel) (pa_cons
        (pe_lc (own := [("target", 4)]) (g := gName 4) (tt := tYes) rfl nd (pi_tup (pv 3)) (blkOk_by (N := N_is_state) (sc := defScope s_is_state) (by decide +kernel)) (fun _ _ _ _ _ => pg_name (i := 4) nd rfl (Or.inl rfl)) (fun _ _ _ _ _ => pts_nil)
          (fun _ _ _ _ _ => pk (F2.mono (by decide : 2 ≤ 3)) hr (by rfl) (pa_cons (pv 4) (pa_cons pe_int (pa_cons (pe_op op_sub (pv 2) pe_int) pa_nil))))) pa_nil)))))), ?_⟩
  obtain ⟨b, g, rfl, hb, hg⟩ := dRow_un hv
  have hgd : Dp K H (.ref g) (.tuple (r.2.map fun (g : Nat) => PyData.int (g : Int))) := .tup hg goals_mk
  refine ⟨_, rfl, .ref b, .ty "tuple", _, _, _, rfl, .ty _, dp_ty hv, kit_dp hv, _, rfl, ifF (by simp [dRow, tyN, isaT]) ⟨_, rfl, b, _, rfl, .inr hb, rfl, _, rfl, iteF ⟨_, rfl, _, rfl, b, _, _, _, rfl, rfl, hb, at_of (j := 0) rfl rfl, p, _, _, rfl, .int r.1, _, rfl, ifF ?_ ?_⟩⟩⟩
  · show (!(decide (0 ≤ r.1) && decide (r.1 ≤ (p : Int) - 1))) = false
    rw [decide_eq_true hok.t0, decide_eq_true (by have := hok.t1; omega)]
    rfl
  refine ⟨_, rfl, b, _, _, _, rfl, rfl, hb, at_of (j := 1) rfl rfl, ?_⟩
  refine ⟨_, rfl, .ref g, .ty "tuple", _, _, _, rfl, .ty _, dp_ty hgd, kit_dp hgd, _, rfl, ifF (by simp [tyN, isaT]) ⟨_, rfl, g, _, rfl, .inr hg, _, rfl, rfl, _, rfl, ifF ?_ ?_⟩⟩
  · show (!decide (V.int ((goalsV r.2).length : Nat) = V.int (p : Int))) = false
    rw [decide_eq_true (by unfold goalsV; rw [List.length_map, hok.len])]
    rfl
  have hgl : (goalsV r.2).length = p := by unfold goalsV; rw [List.length_map, hok.len]
  refine ⟨_, rfl, g, rfl, ⟨_, hg⟩, fun D hD => lc_ys (walk_tup (xs := goalsV r.2)) sameAt hD (by omega) ((List.replicate p true).map V.bl) (by simp; omega) (fun H e => Same.tup e hg) (fun i y z H3 H4 hz e hy Q' hq => ?_) fun H2 e2 hD2 => ⟨D, List.replicate p true, rfl, SqL.of hD2, ?_⟩⟩
  · obtain ⟨rfl, hy⟩ := hy
    obtain ⟨gj, hgj, rfl⟩ := ns_get hy
    obtain ⟨c, hc, rfl⟩ := ns_get hz
    have hct : c = true := List.eq_of_mem_replicate (List.mem_of_getElem? hc)
    have hgm := hok.goal gj (List.mem_of_getElem? hgj)
    refine ⟨rfl, _, rfl, _, rfl, _, _, rfl, rfl, .int gj, _, _, _, rfl, .int gj, ?_⟩
    have : inR (.int (gj : Int)) 0 ((many : Int) - 1) = c := by
      rw [hct]
      show (decide (0 ≤ (gj : Int)) && decide ((gj : Int) ≤ (many : Int) - 1)) = true
      rw [decide_eq_true (by omega), decide_eq_true (by omega)]
      rfl
    show Q' (.bl (inR (.int (gj : Int)) 0 ((many : Int) - 1))) H4
    rw [this]
    exact hq _ (Same.refl _)
  · have : (List.replicate p true).all id = true := by simp
    rw [this]
    exact q _ (e2.trans hide_same)
def spTInit (K : PySem.W.Frag) (C : Addr) : Sp := fun vs H Q _ => ∃ (x dx l : Addr) (m : Mc) (xs : List V), vs = [.ref x, .int m.p, .ref l, .int m.start] ∧ H x = some (.ins C dx []) ∧ SqL K H l xs ∧ DpAll K H xs (m.rows.map dRow) ∧ WF m ∧
  ∀ H' l', (∀ a o, a ≠ x → H a = some o → H' a = some o) → H l' = none → H' l' = some (.lst xs) → H' x = some (.ins C dx (tf m.p l' m.start)) → Q .non H'
theorem k_tinit {f : Addr} {fd : FuncData} (F : Fun K "__init__" "Turner.__init__" s_Turner_init f fd) (T : TF K mg C) (T2 : TC K C) (B : Bl mg) (F1 : Known P w K mg base "need_prime" 3 ["value"] spNeedPrime)
    (F2 : Known P w K mg base "is_state" 4 ["prime", "value", "many"] (spIsState K)) (F3 : Known P w K mg base "is_within" 2 ["value", "low", "high"] (spIsWithin K)) :
    FnOk P w K mg base CX0 5 f fd ["self", "prime", "states", "start"] (spTInit K C) := by
  refine F.ok sc_Turner_init (fun vs H Q E h => by obtain ⟨_, _, _, _, _, rfl, _⟩ := h; rfl) (fun cdv A outer s H vs Q E hr h => ?_)
  obtain ⟨x, dx, l, m, xs, rfl, h1, hs, hd, wf, q⟩ := h
  obtain ⟨mc, u, cr, cv⟩ := T2.ex
  have nd := sc_Turner_init.nd
  refine ⟨_, pss_cons (ps_expr (pk (F1.mono (by decide : 3 ≤ 4)) hr (by rfl) (pa_cons (pv 1) pa_nil)))
    (pss_cons (ps_for PassesOwn.never rfl (pi_enum (by rfl) B.enum (pa_cons (pv 2) pa_nil)) (pg_tup rfl (pgs_cons (pg_name (i := 4) nd rfl (.inl rfl)) (pgs_cons (pg_name (i := 5) nd rfl (.inl rfl)) pgs_nil)))
      (pss_one (ps_if (PW.pt (pw_or (pt_cmpR op_eq (pv 4) (ClX.pe_cval (pe_glob (v := .ref C) (by rfl) T.mgC rfl)) (nomark _)) (pw_or1 (pt_not (pt_val (pk F2 hr (by rfl) (pa_cons (pv 1) (pa_cons (pv 5) (pa_cons (pe_callB call_len_seq (by rfl) B.len PySem.boot_len (pa_cons (pv 2) pa_nil)) pa_nil))))))))) pss_never pss_nil)))
    (pss_cons (ps_if (pt_cmpR op_eq (pe_callB call_len_seq (by rfl) B.len PySem.boot_len (pa_cons (pv 2) pa_nil)) pe_int (nomark _)) pss_never pss_nil)
    (pss_cons (ps_if (pt_not (pt_val (pk (F3.mono (by decide : 2 ≤ 4)) hr (by rfl) (pa_cons (pv 3) (pa_cons pe_int (pa_cons (pe_op op_sub (pe_callB call_len_seq (by rfl) B.len PySem.boot_len (pa_cons (pv 2) pa_nil)) pe_int) pa_nil)))))) pss_never pss_nil)
    (pss_cons (ps_fld (pv 0) (pv 1) rfl)
    (pss_cons (ps_fld (pv 0) (pe_callTy call_list_of (by rfl) B.list (by decide +kernel) (pa_cons (pv 2) pa_nil)) rfl)
    (pss_one (ps_fld (pv 0) (pv 3) rfl))))))), ?_⟩
  have hxl : xs.length = m.rows.length := rows_len hd
  have hsm := wf.small
  have hpos := wf.pos
  have hst := wf.start
  refine ⟨_, rfl, m.p, rfl, wf.prime, ?_⟩
  refine ⟨_, rfl, l, xs, rfl, hs, for_it (walk_enum (xs := xs)) (fun i σ H' => ∃ o4 o5, σ = [some (.ref x), some (.int m.p), some (.ref l), some (.int m.start), o4, o5] ∧ Same H H') ⟨_, _, rfl, Same.refl _⟩ ?_ ?_ ?_⟩
  · rintro i σ H' _ ⟨o4, o5, rfl, e⟩
    exact e.seq hs
  · rintro i y σ H' H2 hi ⟨o4, o5, rfl, e⟩ ⟨Tp, y1, y2, rfl, hTp, rfl, hy1, hy2⟩
    cases hy1
    have e2 : Same H (upd H' Tp (.tup [.int (i : Nat), y2])) := e.new hTp
    have hr0 : m.rows[i]? = some m.rows[i] := List.getElem?_eq_getElem (by omega)
    generalize m.rows[i] = r at hr0
    obtain ⟨y', hy', hdr⟩ := dpa_get hd (i := i) (d := dRow r) (by rw [List.getElem?_map, hr0]; rfl)
    have hyy : some y2 = some y' := hy2.symm.trans hy'
    cases hyy
    have hrm := List.mem_of_getElem? hr0
    refine ⟨Tp, _, rfl, SqT.of upd_same, rfl, _, _, rfl, _, _, rfl, rfl, ?_⟩
    refine ⟨_, rfl, C, mc, _, u, rfl, cr, cv, rfl, _, rfl, ifF (decide_eq_false fun e => by injection e with e; omega) ?_⟩
    refine ⟨_, rfl, _, rfl, _, rfl, l, _, rfl, .inl (e2.seq hs), m.p, xs.length, _, r, rfl, wf.prime, sm e2 hdr, ⟨(wf.turn r hrm).1, (wf.turn r hrm).2, wf.len r hrm, fun g hg => by rw [hxl]; exact wf.goal r hrm g hg⟩, fun H3 e3 => ⟨_, rfl, iteF ⟨_, _, rfl, e2.trans e3⟩⟩⟩
  · rintro σ H2 ⟨o4, o5, rfl, e⟩
    have hs2 := e.seq hs
    refine ⟨_, rfl, l, _, rfl, .inl hs2, rfl, _, rfl, ifF (decide_eq_false fun e => by injection e with e; omega) ?_⟩
    refine ⟨_, rfl, _, rfl, l, _, rfl, .inl hs2, _, _, rfl, rfl, .int m.start, _, _, _, rfl, .int _, _, rfl, ifF ?_ ?_⟩
    · show (!(decide ((0 : Int) ≤ (m.start : Int)) && decide ((m.start : Int) ≤ (xs.length : Int) - 1))) = false
      rw [decide_eq_true (by omega), decide_eq_true (by omega)]
      rfl
    have hx2 := e _ _ h1
    refine ⟨_, rfl, _, rfl, x, C, dx, _, rfl, hx2, T.cl, T.nP, by show 0 < 1000; decide, ?_⟩
    have k1 : ∀ b o, b ≠ x → H b = some o → upd H2 x (.ins C dx (putF "own_prime" (.int m.p) [])) b = some o := fun b o hb ho => by rw [upd_ne hb]; exact e _ _ ho
    have hx3 : upd H2 x (.ins C dx (putF "own_prime" (.int m.p) [])) x = some (.ins C dx (putF "own_prime" (.int m.p) [])) := upd_same
    have ss : SS H (upd H2 x (.ins C dx (putF "own_prime" (.int m.p) []))) := Same.tupS (K := K) (a := x) (xs := []) h1 k1
    generalize upd H2 x (.ins C dx (putF "own_prime" (.int m.p) [])) = H3 at *
    refine ⟨_, rfl, l, xs, rfl, .inl (ss.seq hs), fun l' hl' => ?_⟩
    have nlx : x ≠ l' := ne_of_none hx3 hl'
    refine ⟨_, rfl, x, C, dx, _, rfl, by rw [upd_ne nlx]; exact hx3, T.cl, T.nS, by show 1 < 1000; decide, ?_⟩
    refine ⟨_, rfl, _, rfl, x, C, dx, _, rfl, upd_same, T.cl, T.nT, by show 2 < 1000; decide, ?_⟩
    rw [upd_upd]
    have k3 : ∀ b o, b ≠ x → H b = some o → upd (upd H3 l' (.lst xs)) x (.ins C dx (putF "own_start" (.int m.start) (putF "own_states" (.ref l') (putF "own_prime" (.int m.p) [])))) b = some o := fun b o hb ho => by
      rw [upd_ne hb, upd_ne (ne_of_none (k1 b o hb ho) hl')]
      exact k1 b o hb ho
    refine q _ l' k3 ?_ ?_ upd_same
    · cases ho : H l' with
      | none => rfl
      | some o =>
        rw [k1 l' o (fun e => nlx e.symm) ho] at hl'
        cases hl'
    · rw [upd_ne (fun ab => nlx ab.symm), upd_same]
theorem t_kbn {f : Addr} {fd : FuncData} (F : Fun K "__init__" "Turner.__init__" s_Turner_init f fd) : KBn K fd ["self", "prime", "states", "start"] 3 ["start"] (fun us ws => us ++ ws) (fun vs zs => vs ++ zs) := by
  obtain ⟨oc, od, kV, doc, pm, an, cdv, ct, osl, rfl, lk, hcd⟩ := F.ex
  refine ⟨fun s us ws X l1 l2 => .of_eq ?_, fun r1 r2 => r1.append r2⟩
  match us, ws, l1, l2 with
  | [_, _, _], [_], _, _ => rfl
def spTEq (K : PySem.W.Frag) (C : Addr) : Sp := fun vs H Q _ => ∃ (x y : Addr) (m : Mc), vs = [.ref x, .ref y] ∧ TurnerAt K C H x m ∧ TurnerAt K C H y m ∧ ∀ H', Same H H' → Q (.bl true) H'
theorem k_teq (R : RawM K C "__eq__" "Turner.__eq__" s_Turner_eq) (T : TF K mg C) (T3 : TE1 K C) (B : Bl mg) (F1 : KnownP P w K mg base C "prime" 1 (spTPrime K C)) (F2 : KnownP P w K mg base C "start" 1 (spTStart K C)) (F3 : KnownM P w K mg base C "states" 1 ["self"] (spTStates K C)) :
    KnownM P w K mg base C "__eq__" 3 ["self", "other"] (spTEq K C) := by
  refine knownM R sc_Turner_eq (fun _ _ _ _ _ _ us hl => match us, hl with | [_, _], _ => rfl) (fun vs H Q E h => by obtain ⟨_, _, _, rfl, _⟩ := h; rfl) (fun f cdv A outer s H vs Q E hr h => ?_)
  obtain ⟨x, y, m, rfl, hx, hy, q⟩ := h
  refine ⟨_, pss_cons (ps_if (PW.pt (pw_or (pt_not (pt_val (pe_callB call_isi (by rfl) B.isi (by decide +kernel) (pa_cons (pv 1) (pa_cons (pe_glob (v := .ref C) (by rfl) T.mgC rfl) pa_nil)))))
      (pw_or1 (pt_cmpR op_ne (pe_fld (pv 0) rfl) (pkp (pv 1) T.cl F1 hr) (nomark _))))) (pss_one (ps_ret pe_bl)) pss_nil)
    (pss_one (ps_ret (pe_and (pe_cmpR op_eq (pe_fld (pv 0) rfl) (pkp (pv 1) T.cl F2 hr) (nomark _)) (pe_one (pe_cmpR (op_eqD hr.units) (pe_fld (pv 0) rfl) (pkm0 (pv 1) T.cl F3 (hr.mono (by decide))) (nomark _)))))), ?_⟩
  obtain ⟨dx, lx, xs, x1, x2, x3, x4⟩ := id hx
  obtain ⟨dy, ly, ys, y1, y2, y3, y4⟩ := id hy
  refine ⟨_, rfl, .ref y, .ref C, .ref C, .ref C, true, rfl, .own C, .base (.ins y1 T.cl T3.ha T3.hn T3.htk T3.hm), T3.hk, _, rfl, iteF ?_⟩
  refine ⟨_, rfl, x, C, dx, _, _, rfl, x1, T.cl, T.nP, tf_p _ _ _, _, rfl, y, dy, _, rfl, y1, y, m, rfl, hy, rfl, _, rfl, ifF ?_ ?_⟩
  · show (!decide (V.int (m.p : Int) = V.int (m.p : Int))) = false
    rw [decide_eq_true rfl]
    rfl
  refine ⟨_, rfl, x, C, dx, _, _, rfl, x1, T.cl, T.nT, tf_s _ _ _, _, rfl, y, dy, _, rfl, y1, y, m, rfl, hy, rfl, _, rfl, ifT (decide_eq_true rfl) ?_⟩
  refine ⟨_, rfl, x, C, dx, _, _, rfl, x1, T.cl, T.nS, tf_l _ _ _, _, rfl, y, dy, _, rfl, y1, tf_no _ _ _ (by decide +kernel) (by decide +kernel) (by decide +kernel), y, m, rfl, hy, fun l2 zs H2 hl2 e2 hH2 hd2 => ⟨_, _, .lst (e2.seq x2) (sma e2 x3), .lst (SqL.of hH2) (sma e2 hd2), shaped_rows _, shaped_rows _, ?_⟩⟩
  rw [SeqAt.eqv_refl]
  · exact q _ e2
  · rw [PyData.canLay0]
    exact lay_rows _
end
end L2.K55
namespace L2.K55
open PySem PySem.Spec PyProof.Rows
theorem seq_j {t u : TS} {D : Ends} {σ : St} {H : Hp} (J : St → Hp → Prop) (h2 : ∀ σ' H', J σ' H' → u D σ' H') (h1 : (∀ σ' H', J σ' H' → u D σ' H') → t { D with nx := u D } σ H) : tSeq t u D σ H := h1 h2
theorem while_d {c : TT} {tb : TS} {D : Ends} {σ : St} {H : Hp} (Pv : Nat → St → Hp → Prop) (m0 : Nat) (h0 : Pv m0 σ H)
    (hs : ∀ m σ H, Pv m σ H → c σ H fun b H1 => if b = true then ∃ N : St → Hp → Prop, (∀ σ' H', N σ' H' → ∃ m', m' < m ∧ Pv m' σ' H') ∧ tb { D with nx := N, ct := N, bk := D.nx } σ H1 else D.nx σ H1) : tWhile c tb D σ H := ⟨Pv, ⟨m0, h0⟩, hs⟩
theorem b64 (x : Int) {m : Int} (h0 : 0 < m) (h1 : m < 2 ^ 62) : -(2 ^ 64) < x % m ∧ x % m < 2 ^ 64 := by
  have := Int.emod_nonneg x (show m ≠ 0 by omega)
  have := Int.emod_lt_of_pos x h0
  constructor <;> omega
theorem seqIx {k n : Nat} (h : k < n) : seqIndex? (k : Int) n = some k := by
  show (if (decide (0 ≤ (if (k : Int) < 0 then (k : Int) + n else k)) && decide ((if (k : Int) < 0 then (k : Int) + n else k) < (n : Int))) = true then some (if (k : Int) < 0 then (k : Int) + n else k).toNat else none) = some k
  rw [if_neg (show ¬ (k : Int) < 0 by omega), if_pos (by rw [Bool.and_eq_true, decide_eq_true_eq, decide_eq_true_eq]; exact ⟨by omega, by omega⟩), Int.toNat_natCast]
theorem mapErase {α β : Type} (f : α → β) : ∀ (l : List α) (k : Nat), (l.map f).eraseIdx k = (l.eraseIdx k).map f
  | [], _ => rfl
  | _ :: _, 0 => rfl
  | a :: l, k + 1 => by
    show f a :: (l.map f).eraseIdx k = f a :: (l.eraseIdx k).map f
    rw [mapErase f l k]
theorem cutV_upto (xs : List V) (k : Nat) : cutV xs none (some (k : Int)) = xs.take k := by
  unfold cutV
  rw [HT.sIx_nat, HT.sIx_none, List.drop_zero, Nat.sub_zero]
  rcases Nat.le_total k xs.length with h | h
  · rw [Nat.min_eq_left h]
  · rw [Nat.min_eq_right h, List.take_of_length_le h, List.take_of_length_le (Nat.le_refl _)]
theorem SB.ne {H H' : Hp} {b a : Addr} {o : HO} (e : SB b H H') (n : a ≠ b) (h : H a = some o) : H' a = some o := e a o n h
def BagC (H : Hp) (b c : Addr) : Prop := ∃ (cells : List Int) (i big mix dr : Int), H b = some (.lst [.ref c, .int i, .int big, .int mix, .int dr]) ∧ H c = some (.lst (cells.map V.int)) ∧ 0 ≤ i ∧ 0 ≤ big ∧ 0 ≤ mix ∧ mix < 2147483629
theorem BagC.at' {H : Hp} {b c : Addr} (h : BagC H b c) : BagAt H b := by
  obtain ⟨cells, i, big, mix, dr, r⟩ := h
  exact ⟨c, cells, i, big, mix, dr, r⟩
theorem BagC.same {H H' : Hp} {b c : Addr} (h : BagC H b c) (e : Same H H') : BagC H' b c := by
  obtain ⟨cells, i, big, mix, dr, h1, h2, h3⟩ := h
  exact ⟨cells, i, big, mix, dr, e _ _ h1, e _ _ h2, h3⟩
theorem BagC.ne {H : Hp} {b c D : Addr} (h : BagC H b c) (hD : H D = none) : D ≠ b ∧ D ≠ c := by
  obtain ⟨cells, i, big, mix, dr, h1, h2, h3⟩ := h
  exact ⟨fun e => (by rw [e, h1] at hD; cases hD), fun e => (by rw [e, h2] at hD; cases hD)⟩
theorem BagC.cb {H : Hp} {b c : Addr} (h : BagC H b c) : c ≠ b := by
  obtain ⟨cells, i, big, mix, dr, h1, h2, h3⟩ := h
  intro e
  rw [e, h1] at h2
  injection h2 with h2
  injection h2 with h2
  cases cells with
  | nil => cases h2
  | cons a l => cases h2
theorem BagC.mut {H : Hp} {b c l : Addr} {o : HO} (h : BagC H b c) (n : l ≠ b ∧ l ≠ c) : BagC (upd H l o) b c := by
  obtain ⟨cells, i, big, mix, dr, h1, h2, h3⟩ := h
  exact ⟨cells, i, big, mix, dr, by rw [upd_ne (fun e => n.1 e.symm)]; exact h1, by rw [upd_ne (fun e => n.2 e.symm)]; exact h2, h3⟩
abbrev bgo (c : Addr) (i big mix dr : Int) : HO := .lst [.ref c, .int i, .int big, .int mix, .int dr]
theorem bag_fin {H : Hp} {b c : Addr} {cells : List Int} {i big mix dr : Int} (hc : H c = some (.lst (cells.map V.int))) (ncb : c ≠ b) (h0 : 0 ≤ i) (h1 : 0 ≤ big) (h2 : 0 ≤ mix) (h3 : mix < 2147483629) :
    SB b H (upd H b (bgo c i big mix dr)) ∧ BagC (upd H b (bgo c i big mix dr)) b c :=
  ⟨(SB.refl b H).upd, cells, i, big, mix, dr, upd_same, by rw [upd_ne ncb]; exact hc, h0, h1, h2, h3⟩
section
variable {J : It} {n : Nat} {G : Hp → Prop} {Y : Nat → Hp → V → Hp → Prop}
theorem lc_bag (w : Walk J n G Y) {g : TG} {te : TE} {vs : List Nat} {σ : St} {H1 : Hp} {D b c : Addr} {Qd : Hp → Prop} (hb : BagC H1 b c) (hD : H1 D = none) (hn : n ≤ 100000)
    (R : Nat → V → Prop) (hG : ∀ H, SB b H1 H → BagC H b c → G H)
    (step : ∀ i x H H' acc, i < n → SB b H1 H → BagC H b c → H D = some (.lst acc) → Y i H x H' → ∀ Q' : VK, (∀ y H3, SB b H H3 → BagC H3 b c → R i y → Q' y H3) →
      g x (wipe σ vs) H' fun σ2 H2 => wipe σ2 vs = wipe σ vs ∧ te σ2 H2 Q')
    (hd : ∀ H acc, SB b H1 H → BagC H b c → H D = some (.lst acc) → acc.length = n → (∀ i v, acc[i]? = some v → R i v) → Qd H) :
    ∃ W : Nat → Nat → Hp → Prop, (∃ m, W 0 m (upd H1 D (.lst []))) ∧ ∀ i m H, W i m H →
      (J.stop i H ∧ Qd H) ∨ (J.go i H ∧ ∃ Nx : Hp → Prop, (∀ H', Nx H' → ∃ m', m' < m ∧ W (i + 1) m' H') ∧ ∀ x H', J.yld i H x H' → g x (wipe σ vs) H' fun σ2 H2 => wipe σ2 vs = wipe σ vs ∧ tYes σ2 H2 fun b H3 =>
        if b = true then te σ2 H3 fun y H4 => ∃ acc, H4 D = some (.lst acc) ∧ acc.length < sizeLine ∧ Nx (upd H4 D (.lst (acc ++ [y]))) else Nx H3) := by
  have hne := (hb.ne hD).1
  refine lc_it w (fun i H => SB b H1 H ∧ BagC H b c ∧ ∃ acc, H D = some (.lst acc) ∧ acc.length = i ∧ ∀ j v, acc[j]? = some v → R j v) ?_ ?_ ?_ ?_
  · refine ⟨(SB.refl b H1).new hD, hb.same ((Same.refl _).new hD), [], upd_same, rfl, fun j v h => by simp at h⟩
  · rintro i H _ ⟨s, h, _⟩
    exact hG H s h
  · rintro i x H H' hi ⟨s, h, acc, hacc, hl, hR⟩ y
    refine step i x H H' acc hi s h hacc y _ fun z H3 e hb3 r => ?_
    have h3 := e.ne hne hacc
    refine ⟨acc, h3, Nat.lt_of_le_of_lt (show acc.length ≤ 100000 by omega) (by decide), ?_, ?_, acc ++ [z], upd_same, by rw [List.length_append, hl]; rfl, fun j v hv => ?_⟩
    · intro a o na ha
      rw [upd_ne (ne_of_none ha hD)]
      exact e a o na (s a o na ha)
    · exact hb3.mut (hb.ne hD)
    · rcases Nat.lt_or_ge j acc.length with hj | hj
      · rw [List.getElem?_append_left hj] at hv
        exact hR j v hv
      · rw [List.getElem?_append_right hj] at hv
        have hj0 : j - acc.length = 0 := by
          have := (List.getElem?_eq_some_iff.mp hv).1
          simp at this
          omega
        rw [hj0] at hv
        cases hv
        have : j = i := by omega
        subst this
        exact r
  · rintro H ⟨s, h, acc, hacc, hl, hR⟩
    exact hd H acc s h hacc hl hR
end
section
variable {P : Program} {w : World} {K : PySem.W.Frag} {mg : Str → Option Value} {base : Heap} {C : Addr}
def spBag (K : PySem.W.Frag) : Sp := fun vs H Q _ => ∃ (a : Addr) (ns : List Int), vs = [.ref a] ∧ SqL K H a (ns.map V.int) ∧ ∀ b c H', Same H H' → H b = none → BagC H' b c → Q (.ref b) H'
theorem k_bag (R : Raw K mg "_law_bag" s_law_bag) (B : Bl mg) : Known P w K mg base "_law_bag" 1 ["_law_script"] (spBag K) := by
  refine known R sc_law_bag (fun _ _ _ _ _ _ us hl => match us, hl with | [_], _ => rfl) (fun vs H Q E h => by obtain ⟨_, _, rfl, _⟩ := h; rfl) (fun f cdv A outer s H vs Q E hr h => ?_)
  obtain ⟨a, ns, rfl, ha, q⟩ := h
  have nd := sc_law_bag.nd
  refine ⟨_, pss_cons (ps_set (i := 1) nd rfl (Or.inl rfl) pe_int)
    (pss_cons (ps_for PassesOwn.never rfl (pi_list (pe_slice sl_list (pv 0) po_none (po_some pe_int))) (pg_name (i := 2) nd rfl (Or.inl rfl))
      (pss_one (ps_set (i := 1) nd rfl (Or.inl rfl) (pe_op op_mod (pe_callTy call_int1 (by rfl) B.int (by decide +kernel) (pa_cons (pe_op op_add (pe_op op_add (pe_op op_mul (pv 1) pe_int)
        (pe_op op_mul (pe_op op_mod (pe_callTy call_int1 (by rfl) B.int (by decide +kernel) (pa_cons (pv 2) pa_nil)) pe_int) pe_int)) pe_int) pa_nil)) pe_int))))
    (pss_one (ps_ret (pe_lst (pa_cons (pe_callTy call_list_of (by rfl) B.list (by decide +kernel) (pa_cons (pe_slice sl_list (pv 0) po_none (po_some pe_int)) pa_nil)) (pa_cons pe_int (pa_cons pe_int (pa_cons (pv 1) (pa_cons pe_int pa_nil))))))))), ?_⟩
  refine ⟨_, rfl, _, rfl, a, _, rfl, ha, fun p hp => ⟨p, rfl, ⟨_, SqL.of upd_same⟩, for_it (walk_list (xs := cutV (ns.map V.int) none (some 63))) (fun i σ H' => ∃ (o2 : Option V) (mix : Int), σ = [some (.ref a), some (.int mix), o2] ∧ 0 ≤ mix ∧ mix < 2147483579 ∧ H' = upd H p (.lst (cutV (ns.map V.int) none (some 63))))
    ⟨_, 4926, rfl, by decide, by decide, rfl⟩ ?_ ?_ ?_⟩⟩
  · rintro i σ H' _ ⟨o2, mix, rfl, h0, h1, rfl⟩
    exact SqL.of upd_same
  · rintro i y σ H1 H2 hi ⟨o2, mix, rfl, h0, h1, rfl⟩ ⟨rfl, hy⟩
    rw [show (63 : Int) = ((63 : Nat) : Int) from rfl, cutV_upto, ← List.map_take] at hy
    obtain ⟨n, hn, rfl⟩ := ns_get hy
    refine ⟨_, rfl, _, _, rfl, rfl, .inl (show -(2 ^ 64) < mix ∧ mix < 2 ^ 64 from ⟨by omega, by omega⟩), _, rfl, .inl ⟨_, rfl, _, _, rfl, rfl, (by show (0 : Int) < _; decide), _, _, rfl, rfl, .inr (show -(2 ^ 64) < (881 : Int) ∧ (881 : Int) < 2 ^ 64 by decide), _, _, rfl, rfl, _, _, rfl, rfl, .inl ⟨_, rfl, _, _, rfl, rfl, (by show (0 : Int) < _; decide), ?_⟩⟩⟩
    exact ⟨_, _, rfl, Int.emod_nonneg _ (by decide), Int.emod_lt_of_pos _ (by decide), rfl⟩
  · rintro σ H2 ⟨o2, mix, rfl, h0, h1, rfl⟩
    have e1 : Same H (upd H p (.lst (cutV (ns.map V.int) none (some 63)))) := (Same.refl H).new hp
    generalize upd H p (.lst (cutV (ns.map V.int) none (some 63))) = H2 at *
    refine ⟨_, rfl, _, rfl, a, _, rfl, e1.seq ha, fun p2 hp2 => ⟨p2, _, rfl, .inl (SqL.of upd_same), fun l hl => ⟨_, rfl, by show 5 ≤ sizeLine; decide, fun b hb => ?_⟩⟩⟩
    have e2 : Same H2 (upd H2 p2 (.lst (cutV (ns.map V.int) none (some 63)))) := (Same.refl H2).new hp2
    have e3 := e2.new (o := .lst (cutV (ns.map V.int) none (some 63))) hl
    have e4 := e3.new (o := .lst [.ref l, .int 0, .int 0, .int mix, .int 0]) hb
    refine q b l _ (e1.trans e4) ((e1.trans e3).free hb) ⟨(ns.take 63), 0, 0, mix, 0, upd_same, ?_, by decide, by decide, h0, by omega⟩
    rw [upd_ne (ne_of_none upd_same hb), upd_same, show (63 : Int) = ((63 : Nat) : Int) from rfl, cutV_upto, ← List.map_take]
def spPull : Sp := fun vs H Q _ => ∃ (b c : Addr) (many : Int), vs = [.ref b, .int many] ∧ BagC H b c ∧ 0 < many ∧ many < 1073741824 ∧ ∀ H' (k : Nat), SB b H H' → BagC H' b c → (k : Int) < many → Q (.int k) H'
theorem k_pull (R : Raw K mg "_law_pull" s_law_pull) (B : Bl mg) : Known P w K mg base "_law_pull" 1 ["_law_bag_here", "_law_many"] spPull := by
  refine known R sc_law_pull (fun _ _ _ _ _ _ us hl => match us, hl with | [_, _], _ => rfl) (fun vs H Q E h => by obtain ⟨_, _, _, rfl, _⟩ := h; rfl) (fun f cdv A outer s H vs Q E hr h => ?_)
  obtain ⟨b, c, many, rfl, hB, hm0, hm1, q⟩ := h
  have ncb := hB.cb
  obtain ⟨cells, i, big, mix, dr, h1, h2, h3, h4, h5, h6⟩ := hB
  have nd := sc_law_pull.nd
  refine ⟨_, pss_cons (ps_asg (pe_op op_add (pe_ix ix_list (pv 0) pe_int (fun _ _ => rfl)) pe_int) (pg_sub (pv 0) pe_int set_list))
    (pss_cons (ps_if (PW.pt (pw_and (pt_cmpR op_eq (pe_ix ix_list (pv 0) pe_int (fun _ _ => rfl)) pe_int (nomark _)) (pw_and1 (pt_cmpR op_lt (pe_ix ix_list (pv 0) pe_int (fun _ _ => rfl))
        (pe_callB call_len_seq (by rfl) B.len PySem.boot_len (pa_cons (pe_ix ix_list (pv 0) pe_int (fun _ _ => rfl)) pa_nil)) (nomark _)))))
      (pss_cons (ps_set (i := 2) nd rfl (Or.inl rfl) (pe_ix ix_list (pe_ix ix_list (pv 0) pe_int (fun _ _ => rfl)) (pe_ix ix_list (pv 0) pe_int (fun _ _ => rfl)) (fun _ _ => rfl)))
      (pss_cons (ps_asg (pe_op op_add (pe_ix ix_list (pv 0) pe_int (fun _ _ => rfl)) pe_int) (pg_sub (pv 0) pe_int set_list))
      (pss_one (ps_if (pt_cmpR op_ge (pe_callB call_abs (by rfl) B.abs (by decide +kernel) (pa_cons (pv 2) pa_nil)) (pe_op op_pow pe_int pe_int) (nomark _))
        (pss_one (ps_asg (pe_callB call_abs (by rfl) B.abs (by decide +kernel) (pa_cons (pv 2) pa_nil)) (pg_sub (pv 0) pe_int set_list)))
        (pss_one (ps_asg (pe_op op_mod (pe_callTy call_int1 (by rfl) B.int (by decide +kernel) (pa_cons (pe_op op_add (pe_op op_add (pe_op op_mul (pe_ix ix_list (pv 0) pe_int (fun _ _ => rfl)) pe_int)
          (pe_op op_mul (pe_op op_mod (pe_callTy call_int1 (by rfl) B.int (by decide +kernel) (pa_cons (pv 2) pa_nil)) pe_int) pe_int)) pe_int) pa_nil)) pe_int) (pg_sub (pv 0) pe_int set_list))))))) pss_nil)
    (pss_cons (ps_if (pt_cmpR op_gt (pe_ix ix_list (pv 0) pe_int (fun _ _ => rfl)) pe_int (nomark _))
      (pss_cons (ps_set (i := 3) nd rfl (Or.inl rfl) (pe_op op_mod (pe_callTy call_int1 (by rfl) B.int (by decide +kernel) (pa_cons (pe_ix ix_list (pv 0) pe_int (fun _ _ => rfl)) pa_nil)) (pv 1)))
      (pss_cons (ps_asg (pe_op op_fdiv (pe_ix ix_list (pv 0) pe_int (fun _ _ => rfl)) (pv 1)) (pg_sub (pv 0) pe_int set_list))
      (pss_one (ps_ret (pv 3))))) pss_nil)
    (pss_cons (ps_set (i := 4) nd rfl (Or.inl rfl) (pe_op op_mod (pe_callTy call_int1 (by rfl) B.int (by decide +kernel) (pa_cons (pe_op op_add (pe_op op_mul (pe_ix ix_list (pv 0) pe_int (fun _ _ => rfl)) (pe_ix ix_list (pv 0) pe_int (fun _ _ => rfl)))
        (pe_op op_mul (pe_ix ix_list (pv 0) pe_int (fun _ _ => rfl)) pe_int)) pa_nil)) pe_int))
    (pss_cons (ps_asg (pe_op op_mod (pe_callTy call_int1 (by rfl) B.int (by decide +kernel) (pa_cons (pe_op op_add (pe_op op_add (pe_op op_mul (pv 4) pe_int) (pe_op op_mul (pe_ix ix_list (pv 0) pe_int (fun _ _ => rfl)) pe_int)) pe_int) pa_nil)) pe_int) (pg_sub (pv 0) pe_int set_list))
    (pss_one (ps_ret (pe_op op_mod (pe_callTy call_int1 (by rfl) B.int (by decide +kernel) (pa_cons (pe_op op_fdiv (pe_ix ix_list (pv 0) pe_int (fun _ _ => rfl)) pe_int) pa_nil)) (pv 1)))))))), ?_⟩
  refine ⟨_, rfl, b, _, _, _, rfl, rfl, SqL.of h1, at_of (j := 4) rfl rfl, _, _, rfl, rfl, _, rfl, b, _, _, 4, rfl, rfl, h1, rfl, ?_⟩
  dsimp only
  refine seq_j (t := tIfS _ _ _) (fun σ' H' => ∃ (o2 : Option V) (i big mix : Int), σ' = [some (.ref b), some (.int many), o2, none, none] ∧ H' = upd H b (bgo c i big mix (dr + 1)) ∧ 0 ≤ i ∧ 0 ≤ big ∧ 0 ≤ mix ∧ mix < 2147483629) ?_ fun join => ?_
  · rintro σ' H' ⟨o2, i, big, mix, rfl, rfl, h3, h4, h5, h6⟩
    have hh : ∀ i big mix dr, upd H b (bgo c i big mix dr) b = some (bgo c i big mix dr) := fun _ _ _ _ => upd_same
    refine ⟨_, rfl, b, _, _, _, rfl, rfl, SqL.of (hh _ _ _ _), at_of (j := 2) rfl rfl, _, _, rfl, rfl, _, rfl, ?_⟩
    by_cases hb : 0 < big
    · refine ifT (decide_eq_true hb) ⟨_, rfl, b, _, _, _, rfl, rfl, SqL.of (hh _ _ _ _), at_of (j := 2) rfl rfl, .inl ⟨_, rfl, _, rfl, _, _, rfl, rfl, hm0, ?_⟩⟩
      refine ⟨_, rfl, b, _, _, _, rfl, rfl, SqL.of (hh _ _ _ _), at_of (j := 2) rfl rfl, _, rfl, _, _, rfl, rfl, ⟨hm0, hm1⟩, _, rfl, b, _, _, 2, rfl, rfl, hh _ _ _ _, rfl, ?_⟩
      rw [upd_upd]
      refine ⟨_, rfl, ?_⟩
      have f := bag_fin (H := H) (i := i) (big := big / many) (mix := mix) (dr := dr + 1) h2 ncb h3 (Int.ediv_nonneg h4 (by omega)) h5 h6
      have hk0 := Int.emod_nonneg big (show many ≠ 0 by omega)
      have hk1 := Int.emod_lt_of_pos big hm0
      have hk : ((big % many).toNat : Int) = big % many := Int.toNat_of_nonneg hk0
      have := q _ (big % many).toNat f.1 f.2 (by rw [hk]; exact hk1)
      rw [hk] at this
      exact this
    · refine ifF (decide_eq_false hb) ?_
      refine ⟨_, rfl, b, _, _, _, rfl, rfl, SqL.of (hh _ _ _ _), at_of (j := 3) rfl rfl, _, rfl, b, _, _, _, rfl, rfl, SqL.of (hh _ _ _ _), at_of (j := 3) rfl rfl, _, _, rfl, rfl, .inl (show -(2 ^ 64) < mix ∧ mix < 2 ^ 64 from ⟨by omega, by omega⟩),
        _, rfl, b, _, _, _, rfl, rfl, SqL.of (hh _ _ _ _), at_of (j := 4) rfl rfl, _, _, rfl, rfl, .inr (show -(2 ^ 64) < (8093 : Int) ∧ (8093 : Int) < 2 ^ 64 by decide), _, _, rfl, rfl, .inl ⟨_, rfl, _, _, rfl, rfl, (by show (0 : Int) < _; decide), ?_⟩⟩
      refine ⟨_, rfl, _, _, rfl, rfl, .inl (b64 _ (by decide) (by decide)), _, rfl, b, _, _, _, rfl, rfl, SqL.of (hh _ _ _ _), at_of (j := 3) rfl rfl, _, _, rfl, rfl, .inl (show -(2 ^ 64) < mix ∧ mix < 2 ^ 64 from ⟨by omega, by omega⟩),
        _, _, rfl, rfl, _, _, rfl, rfl, .inl ⟨_, rfl, _, _, rfl, rfl, (by show (0 : Int) < _; decide), _, rfl, b, _, _, 3, rfl, rfl, hh _ _ _ _, rfl, ?_⟩⟩
      rw [upd_upd]
      refine ⟨_, rfl, b, _, _, _, rfl, rfl, SqL.of upd_same, at_of (j := 3) rfl rfl, _, _, rfl, rfl, ⟨by decide, by decide⟩, .inl ⟨_, rfl, _, rfl, _, _, rfl, rfl, hm0, ?_⟩⟩
      have mx0 : 0 ≤ ((mix * mix + (dr + 1) * 8093) % 2147483549 * 16427 + mix * 60029 + 54331) % 2147483629 := Int.emod_nonneg _ (by decide)
      have mx1 : ((mix * mix + (dr + 1) * 8093) % 2147483549 * 16427 + mix * 60029 + 54331) % 2147483629 < 2147483629 := Int.emod_lt_of_pos _ (by decide)
      have f := bag_fin (H := H) (i := i) (big := big) (dr := dr + 1) h2 ncb h3 h4 mx0 mx1
      have hk0 := Int.emod_nonneg (((mix * mix + (dr + 1) * 8093) % 2147483549 * 16427 + mix * 60029 + 54331) % 2147483629 / 64) (show many ≠ 0 by omega)
      have hk1 := Int.emod_lt_of_pos (((mix * mix + (dr + 1) * 8093) % 2147483549 * 16427 + mix * 60029 + 54331) % 2147483629 / 64) hm0
      have hk := Int.toNat_of_nonneg hk0
      have := q _ _ f.1 f.2 (by rw [hk]; exact hk1)
      rw [hk] at this
      exact this
  · have hh : ∀ i big mix dr, upd H b (bgo c i big mix dr) b = some (bgo c i big mix dr) := fun _ _ _ _ => upd_same
    have hcc : ∀ i big mix dr, upd H b (bgo c i big mix dr) c = some (.lst (cells.map V.int)) := fun _ _ _ _ => by rw [upd_ne ncb]; exact h2
    refine ⟨_, rfl, b, _, _, _, rfl, rfl, SqL.of (hh i big mix (dr + 1)), at_of (j := 2) rfl rfl, rfl, _, rfl, ?_⟩
    rcases Int.decEq big 0 with hb | hb
    · refine ifF (decide_eq_false fun e => hb (by injection e)) (ifF rfl ?_)
      exact join _ _ ⟨none, i, big, mix, rfl, rfl, h3, h4, h5, h6⟩
    subst hb
    refine ifT (decide_eq_true rfl) ⟨_, rfl, b, _, _, _, rfl, rfl, SqL.of (hh i 0 mix (dr + 1)), at_of (j := 1) rfl rfl, _, rfl, b, _, _, _, rfl, rfl, SqL.of (hh i 0 mix (dr + 1)), at_of (j := 0) rfl rfl, c, _, rfl, .inl (SqL.of (hcc _ _ _ _)), _, _, rfl, rfl, _, rfl, ?_⟩
    rw [List.length_map]
    by_cases hi : i < (cells.length : Int)
    · obtain ⟨ii, rfl⟩ := Int.eq_ofNat_of_zero_le h3
      obtain ⟨x, hx⟩ : ∃ x, cells[ii]? = some x := ⟨_, List.getElem?_eq_getElem (by omega)⟩
      refine ifT (decide_eq_true hi) ⟨_, rfl, b, _, _, _, rfl, rfl, SqL.of (hh ii 0 mix (dr + 1)), at_of (j := 0) rfl rfl, _, rfl, b, _, _, _, rfl, rfl, SqL.of (hh ii 0 mix (dr + 1)), at_of (j := 1) rfl rfl, c, _, _, .int x, rfl, rfl, SqL.of (hcc _ _ _ _), at_of (j := ii) rfl (by rw [List.getElem?_map, hx]; rfl), ?_⟩
      refine ⟨_, rfl, b, _, _, _, rfl, rfl, SqL.of (hh ii 0 mix (dr + 1)), at_of (j := 1) rfl rfl, _, _, rfl, rfl, _, rfl, b, _, _, 1, rfl, rfl, hh ii 0 mix (dr + 1), rfl, ?_⟩
      rw [upd_upd]
      refine ⟨_, rfl, x, rfl, _, _, rfl, rfl, ⟨by decide, by decide, by decide⟩, _, _, rfl, rfl, _, rfl, ?_⟩
      by_cases hx18 : (10 : Int) ^ (18 : Int).toNat ≤ if x < 0 then -x else x
      · refine ifT (decide_eq_true hx18) ⟨_, rfl, x, rfl, _, rfl, b, _, _, 2, rfl, rfl, upd_same, rfl, ?_⟩
        rw [upd_upd]
        refine join _ _ ⟨some (.int x), (ii : Int) + 1, if x < 0 then -x else x, mix, rfl, rfl, by omega, ?_, h5, h6⟩
        split <;> omega
      · refine ifF (decide_eq_false hx18) ⟨_, rfl, b, _, _, _, rfl, rfl, SqL.of upd_same, at_of (j := 3) rfl rfl, _, _, rfl, rfl, .inl (show -(2 ^ 64) < mix ∧ mix < 2 ^ 64 from ⟨by omega, by omega⟩), _, rfl, .inl ⟨_, rfl, _, _, rfl, rfl, (by show (0 : Int) < _; decide), _, _, rfl, rfl, .inl (b64 _ (by decide) (by decide)), _, _, rfl, rfl, _, _, rfl, rfl, .inl ⟨_, rfl, _, _, rfl, rfl, (by show (0 : Int) < _; decide), ?_⟩⟩⟩
        refine ⟨_, rfl, b, _, _, 3, rfl, rfl, upd_same, rfl, ?_⟩
        rw [upd_upd]
        exact join _ _ ⟨some (.int x), (ii : Int) + 1, 0, _, rfl, rfl, by omega, by decide, Int.emod_nonneg _ (by decide), Int.emod_lt_of_pos _ (by decide)⟩
    · refine ifF (decide_eq_false hi) ?_
      exact join _ _ ⟨none, i, 0, mix, rfl, rfl, h3, by decide, h5, h6⟩
def spOf : Sp := fun vs H Q _ => ∃ (b c l : Addr) (xs : List V), vs = [.ref b, .ref l] ∧ BagC H b c ∧ H l = some (.lst xs) ∧ l ≠ b ∧ xs ≠ [] ∧ xs.length ≤ 1000000 ∧ ∀ H' v, SB b H H' → BagC H' b c → v ∈ xs → Q v H'
theorem k_of (R : Raw K mg "_law_of" s_law_of) (B : Bl mg) (F1 : Known P w K mg base "_law_pull" 1 ["_law_bag_here", "_law_many"] spPull) : Known P w K mg base "_law_of" 2 ["_law_bag_here", "_law_some"] spOf := by
  refine known R sc_law_of (fun _ _ _ _ _ _ us hl => match us, hl with | [_, _], _ => rfl) (fun vs H Q E h => by obtain ⟨_, _, _, _, rfl, _⟩ := h; rfl) (fun f cdv A outer s H vs Q E hr h => ?_)
  obtain ⟨b, c, l, xs, rfl, hB, hl, hlb, hne, hsz, q⟩ := h
  have hpos : 0 < xs.length := List.length_pos_iff.mpr hne
  refine ⟨_, pss_one (ps_ret (pe_ix ix_list (pv 1) (pk F1 hr (by rfl) (pa_cons (pv 0) (pa_cons (pe_callB call_len_seq (by rfl) B.len PySem.boot_len (pa_cons (pv 1) pa_nil)) pa_nil))) (fun _ _ => rfl))), ?_⟩
  refine ⟨_, rfl, _, rfl, _, rfl, l, _, rfl, .inl (SqL.of hl), b, c, _, rfl, hB, by omega, by omega, fun H' k e hB' hk => ?_⟩
  have hx : xs[k]? = some xs[k] := List.getElem?_eq_getElem (by omega)
  exact ⟨l, xs, _, _, rfl, rfl, SqL.of (e.ne hlb hl), at_of (j := k) rfl hx, q H' _ e hB' (List.getElem_mem _)⟩
def spMixed : Sp := fun vs H Q _ => ∃ (b c l : Addr) (ns : List Int), vs = [.ref b, .ref l] ∧ BagC H b c ∧ H l = some (.lst (ns.map V.int)) ∧ l ≠ b ∧ ns.length ≤ 100000 ∧ ∀ H' l' (ms : List Int), SB b H H' → BagC H' b c → H l' = none → H' l' = some (.lst (ms.map V.int)) → ms.Perm ns → Q (.ref l') H'
theorem k_mixed (R : Raw K mg "_law_mixed" s_law_mixed) (B : Bl mg) (F1 : Known P w K mg base "_law_pull" 1 ["_law_bag_here", "_law_many"] spPull) : Known P w K mg base "_law_mixed" 2 ["_law_bag_here", "_law_some"] spMixed := by
  refine known R sc_law_mixed (fun _ _ _ _ _ _ us hl => match us, hl with | [_, _], _ => rfl) (fun vs H Q E h => by obtain ⟨_, _, _, _, rfl, _⟩ := h; rfl) (fun f cdv A outer s H vs Q E hr h => ?_)
  obtain ⟨b, c, l, ns, rfl, hB, hl, hlb, hsz, q⟩ := h
  have nd := sc_law_mixed.nd
  refine ⟨_, pss_cons (ps_par (i := 2) (j := 3) (by rfl) nd rfl rfl (by decide) rfl rfl (pa_cons (pe_callTy call_list_of (by rfl) B.list (by decide +kernel) (pa_cons (pv 1) pa_nil)) (pa_cons (pe_lst pa_nil) pa_nil)) (by rfl))
    (pss_cons (ps_while PassesOwn.never (pt_cmpR (op_neD hr.units) (pv 2) (pe_lst pa_nil) (nomark _))
      (pss_one (ps_expr (pe_bm PySem.F.plainAttrs_list PySem.F.slot_list_append PySem.F.type_list_append mt_append (pv 3) (pa_cons
        (pe_bm PySem.F.plainAttrs_list PySem.F.slot_list_pop PySem.F.type_list_pop mt_popAt (pv 2) (pa_cons (pk F1 hr (by rfl) (pa_cons (pv 0) (pa_cons (pe_callB call_len_seq (by rfl) B.len PySem.boot_len (pa_cons (pv 2) pa_nil)) pa_nil))) pa_nil)) pa_nil)))))
    (pss_one (ps_ret (pv 3)))), ?_⟩
  refine ⟨_, rfl, l, _, rfl, .inl (SqL.of hl), fun lf hlf => ?_⟩
  have e1 : Same H (upd H lf (.lst (ns.map V.int))) := (Same.refl H).new hlf
  refine ⟨by show 0 ≤ sizeLine; decide, fun fd hfd => ⟨_, _, rfl, ?_⟩⟩
  have e2 : Same H (upd (upd H lf (.lst (ns.map V.int))) fd (.lst [])) := e1.new hfd
  have nff : fd ≠ lf := fun e => by rw [e, upd_same] at hfd; cases hfd
  have hfd0 : H fd = none := e1.free hfd
  refine while_d (fun m σ H' => ∃ left found : List Int, m = left.length ∧ σ = [some (.ref b), some (.ref l), some (.ref lf), some (.ref fd)] ∧ SB b H H' ∧ BagC H' b c ∧ H' lf = some (.lst (left.map V.int)) ∧ H' fd = some (.lst (found.map V.int)) ∧ (found ++ left).Perm ns) ns.length
    ⟨ns, [], rfl, rfl, e2.sb b, hB.same e2, by rw [upd_ne (fun e => nff e.symm), upd_same], upd_same, by rw [List.nil_append]⟩ ?_
  rintro m σ H' ⟨left, found, rfl, rfl, e, hB', h2, h3, hp⟩
  refine ⟨_, rfl, by show 0 ≤ sizeLine; decide, fun p hp0 => ⟨dI left, dI [], dI_mk (SqL.of (((Same.refl H').new hp0) _ _ h2)), dI_mk (SqL.of upd_same), shaped_dI _, shaped_dI _, _, rfl, ?_⟩⟩
  rw [eqv_dI]
  have e3 : Same H' (upd H' p (.lst [])) := (Same.refl H').new hp0
  have h2' := e3 _ _ h2
  have h3' := e3 _ _ h3
  have hB3 := hB'.same e3
  have eH3 : SB b H (upd H' p (.lst [])) := e.trans (e3.sb b)
  generalize upd H' p (.lst []) = H3 at *
  cases left with
  | nil =>
    rw [decide_eq_true rfl]
    rw [List.append_nil] at hp
    exact iteF ⟨_, rfl, q H3 fd found eH3 hB3 hfd0 h3' hp⟩
  | cons x0 left0 =>
    rw [decide_eq_false (by intro e; cases e)]
    refine iteT ⟨fun σ' H4 => ∃ m', m' < (x0 :: left0).length ∧ ∃ left found : List Int, m' = left.length ∧ σ' = [some (.ref b), some (.ref l), some (.ref lf), some (.ref fd)] ∧ SB b H H4 ∧ BagC H4 b c ∧ H4 lf = some (.lst (left.map V.int)) ∧ H4 fd = some (.lst (found.map V.int)) ∧ (found ++ left).Perm ns, fun _ _ h => h, ?_⟩
    have hll : (x0 :: left0).length ≤ 100000 := by
      have := hp.length_eq
      rw [List.length_append] at this
      omega
    generalize hleft : x0 :: left0 = left at *
    have hpos : 0 < left.length := by rw [← hleft]; exact Nat.succ_pos _
    refine ⟨_, rfl, .inl ⟨rfl, _, SqL.of h3'⟩, _, rfl, .inl ⟨rfl, _, SqL.of h2'⟩, _, rfl, _, rfl, lf, _, rfl, .inl (SqL.of h2'), b, c, _, rfl, hB3, by rw [List.length_map]; omega, by rw [List.length_map]; omega, fun H4 k e4 hB4 hk => ?_⟩
    rw [List.length_map] at hk
    have nlf := hB.ne hlf
    have nfd := hB.ne hfd0
    have h24 := e4.ne nlf.1 h2'
    have h34 := e4.ne nfd.1 h3'
    obtain ⟨x, hx⟩ : ∃ x, left[k]? = some x := ⟨_, List.getElem?_eq_getElem (by omega)⟩
    refine ⟨lf, _, _, k, .int x, rfl, rfl, h24, by omega, by omega, ?_, by rw [List.getElem?_map, hx]; rfl, fd, _, _, rfl, rfl, by rw [upd_ne nff]; exact h34, ?_, left.eraseIdx k |>.length, ?_, left.eraseIdx k, found ++ [x], rfl, rfl, ?_, ?_, ?_, ?_, ?_⟩
    · exact seqIx (by rw [List.length_map]; omega)
    · rw [List.length_map]
      have := hp.length_eq
      rw [List.length_append] at this
      exact Nat.lt_of_le_of_lt (show found.length ≤ 100000 by omega) (by decide)
    · rw [List.length_eraseIdx, if_pos (by omega)]
      omega
    · intro a o na ha
      rw [upd_ne (ne_of_none ha hfd0), upd_ne (ne_of_none ha hlf)]
      exact e4 a o na (eH3 a o na ha)
    · exact (hB4.mut nlf).mut nfd
    · rw [upd_ne (fun e => nff e.symm), upd_same, mapErase]
    · rw [upd_same, List.map_append]
      rfl
    · exact (perm_pop found left k x hx).trans hp
def spLPrime : Sp := fun vs H Q _ => ∃ (b c : Addr), vs = [.ref b] ∧ BagC H b c ∧ ∀ H' (p : Nat), SB b H H' → BagC H' b c → isPrm p → Q (.int p) H'
theorem k_lprime (R : Raw K mg "_law_prime" s_law_prime) (F1 : Known P w K mg base "_law_of" 2 ["_law_bag_here", "_law_some"] spOf) : Known P w K mg base "_law_prime" 3 ["_law_bag_here"] spLPrime := by
  refine known R sc_law_prime (fun _ _ _ _ _ _ us hl => match us, hl with | [_], _ => rfl) (fun vs H Q E h => by obtain ⟨_, _, rfl, _⟩ := h; rfl) (fun f cdv A outer s H vs Q E hr h => ?_)
  obtain ⟨b, c, rfl, hB, q⟩ := h
  refine ⟨_, pss_one (ps_ret (pk F1 hr (by rfl) (pa_cons (pv 0) (pa_cons (pe_lst (pa_cons pe_int (pa_cons pe_int (pa_cons pe_int (pa_cons pe_int (pa_cons pe_int (pa_cons pe_int (pa_cons pe_int pa_nil)))))))) pa_nil)))), ?_⟩
  refine ⟨_, rfl, by show 7 ≤ sizeLine; decide, fun p hp => ?_⟩
  have e : Same H (upd H p (.lst [.int 2, .int 2, .int 3, .int 2, .int 3, .int 5, .int 7])) := (Same.refl H).new hp
  refine ⟨b, c, p, _, rfl, hB.same e, upd_same, (hB.ne hp).1, fun h => (by cases h), by show 7 ≤ 1000000; decide, fun H' v e' hB' hv => ?_⟩
  have : ∃ q : Nat, isPrm q ∧ v = .int q := by
    simp only [List.mem_cons, List.not_mem_nil, or_false] at hv
    rcases hv with rfl | rfl | rfl | rfl | rfl | rfl | rfl
    · exact ⟨2, .inl rfl, rfl⟩
    · exact ⟨2, .inl rfl, rfl⟩
    · exact ⟨3, .inr (.inl rfl), rfl⟩
    · exact ⟨2, .inl rfl, rfl⟩
    · exact ⟨3, .inr (.inl rfl), rfl⟩
    · exact ⟨5, .inr (.inr (.inl rfl)), rfl⟩
    · exact ⟨7, .inr (.inr (.inr rfl)), rfl⟩
  obtain ⟨pr, h1, rfl⟩ := this
  exact q H' pr ((e.sb b).trans e') hB' h1
def spFigures : Sp := fun vs H Q _ => ∃ (b c : Addr) (p many : Nat), vs = [.ref b, .int p, .int many] ∧ BagC H b c ∧ 0 < p ∧ p ≤ 1000 ∧ many ≤ 1000 ∧ ∀ H' t (gs : List Nat), SB b H H' → BagC H' b c → H t = none → H' t = some (.tup (goalsV gs)) → gs.length = many → (∀ g ∈ gs, g < p) → Q (.ref t) H'
theorem k_figures (R : Raw K mg "_law_figures" s_law_figures) (B : Bl mg) (F1 : Known P w K mg base "_law_pull" 1 ["_law_bag_here", "_law_many"] spPull) : Known P w K mg base "_law_figures" 2 ["_law_bag_here", "_law_p", "_law_many"] spFigures := by
  refine known R sc_law_figures (fun _ _ _ _ _ _ us hl => match us, hl with | [_, _, _], _ => rfl) (fun vs H Q E h => by obtain ⟨_, _, _, _, rfl, _⟩ := h; rfl) (fun f cdv A outer s H vs Q E hr h => ?_)
  obtain ⟨b, c, p, many, rfl, hB, hp0, hp1, hm, q⟩ := h
  have nd := sc_law_figures.nd
  refine ⟨_, pss_one (ps_ret (pe_callTy call_tuple_of (by rfl) B.tuple (by decide +kernel) (pa_cons (pe_lc (own := [("_law_k", 3)]) (g := gName 3) (tt := tYes) rfl nd (pi_range1 (by rfl) B.range (pa_cons (pv 2) pa_nil)) (blkOk_by (N := N_law_figures) (sc := defScope s_law_figures) (by decide +kernel)) (fun _ _ _ _ _ => pg_name (i := 3) nd rfl (Or.inl rfl)) (fun _ _ _ _ _ => pts_nil)
    (fun _ _ _ _ _ => pk F1 hr (by rfl) (pa_cons (pv 0) (pa_cons (pv 1) pa_nil)))) pa_nil))), ?_⟩
  refine ⟨_, rfl, _, rfl, by omega, by omega, fun D hD => lc_bag walk_range hB hD (by simp; omega) (fun i v => ∃ g : Nat, v = .int g ∧ g < p) (fun _ _ _ => trivial) (fun i x H1 H2 acc hi e hB1 hacc hy Q' hq => ?_) fun H1 acc e hB1 hacc hal hR => ?_⟩
  · obtain ⟨rfl, rfl⟩ := hy
    exact ⟨rfl, _, rfl, _, rfl, b, c, _, rfl, hB1, by omega, by omega, fun H3 k e3 hB3 hk => hq _ _ e3 hB3 ⟨k, rfl, by omega⟩⟩
  · obtain ⟨gs, hgs, hgl⟩ : ∃ gs : List Nat, acc = goalsV gs ∧ ∀ g ∈ gs, g < p := by
      have : ∀ (l : List V), (∀ v ∈ l, ∃ g : Nat, v = .int g ∧ g < p) → ∃ gs : List Nat, l = goalsV gs ∧ ∀ g ∈ gs, g < p := by
        intro l
        induction l with
        | nil => exact fun _ => ⟨[], rfl, fun _ h => by cases h⟩
        | cons v l ih =>
          intro h
          obtain ⟨g, rfl, hg⟩ := h v List.mem_cons_self
          obtain ⟨gs, rfl, hgs⟩ := ih fun v hv => h v (List.mem_cons_of_mem _ hv)
          exact ⟨g :: gs, rfl, fun x hx => by
            rcases List.mem_cons.mp hx with rfl | hx
            · exact hg
            · exact hgs x hx⟩
      exact this acc fun v hv => by
        obtain ⟨i, hi⟩ := List.getElem?_of_mem hv
        exact hR i v hi
    subst hgs
    refine ⟨D, _, rfl, .inl ⟨SqL.of hacc, fun t ht => ?_⟩⟩
    have e2 : Same H1 (upd H1 t (.tup (goalsV gs))) := (Same.refl _).new ht
    have htn : H t = none := by
      cases ho : H t with
      | none => rfl
      | some o =>
        by_cases htb : t = b
        · obtain ⟨cells, i, big, mix, dr, k1, _⟩ := hB1
          rw [htb, k1] at ht
          cases ht
        · rw [e t o htb ho] at ht
          cases ht
    refine q _ t gs (e.trans (e2.sb b)) (hB1.same e2) htn upd_same ?_ hgl
    have : (goalsV gs).length = gs.length := by unfold goalsV; rw [List.length_map]
    rw [← this, hal]
    simp
end
end L2.K55
namespace L2.K55
open PySem PySem.Spec PyProof.Rows
def TT (H H' : Hp) : Prop := ∀ a xs, H a = some (.tup xs) → H' a = some (.tup xs)
theorem TT.refl (H : Hp) : TT H H := fun _ _ h => h
theorem TT.trans {H H1 H2 : Hp} (e1 : TT H H1) (e2 : TT H1 H2) : TT H H2 := fun a xs h => e2 a xs (e1 a xs h)
theorem _root_.L2.Same.tt {H H' : Hp} (e : Same H H') : TT H H' := fun a xs h => e _ _ h
theorem SB.tt {H H' : Hp} {b c : Addr} (e : SB b H H') (h : BagC H b c) : TT H H' := fun a xs ha => e a _ (fun ab => by
  obtain ⟨cells, i, big, mix, dr, h1, _⟩ := h
  rw [ab, h1] at ha
  cases ha) ha
theorem tt_mut {H : Hp} {l : Addr} {xs : List V} {o : HO} (h : H l = some (.lst xs)) : TT H (upd H l o) := fun a ys ha => by
  rw [upd_ne (fun e => by rw [e, h] at ha; cases ha)]
  exact ha
def RowAt (H : Hp) (v : V) (r : Int × List Nat) : Prop := ∃ b g, v = .ref b ∧ H b = some (.tup [.int r.1, .ref g]) ∧ H g = some (.tup (goalsV r.2))
theorem RowAt.tt {H H' : Hp} {v : V} {r : Int × List Nat} (h : RowAt H v r) (e : TT H H') : RowAt H' v r := by
  obtain ⟨b, g, h0, h1, h2⟩ := h
  exact ⟨b, g, h0, e _ _ h1, e _ _ h2⟩
inductive Rows (H : Hp) : List V → List (Int × List Nat) → Prop where
  | nil : Rows H [] []
  | cons {v vs r rs} (h : RowAt H v r) (t : Rows H vs rs) : Rows H (v :: vs) (r :: rs)
theorem Rows.tt {H H' : Hp} (e : TT H H') : ∀ {vs rs}, Rows H vs rs → Rows H' vs rs
  | _, _, .nil => .nil
  | _, _, .cons h t => .cons (h.tt e) (t.tt e)
theorem Rows.app {H : Hp} {v : V} {r} (h : RowAt H v r) : ∀ {vs rs}, Rows H vs rs → Rows H (vs ++ [v]) (rs ++ [r])
  | _, _, .nil => .cons h .nil
  | _, _, .cons h1 t => .cons h1 (t.app h)
theorem Rows.len {H : Hp} : ∀ {vs rs}, Rows H vs rs → vs.length = rs.length
  | _, _, .nil => rfl
  | _, _, .cons h t => congrArg Nat.succ t.len
theorem Rows.dpa {K : PySem.W.Frag} {H : Hp} : ∀ {vs rs}, Rows H vs rs → DpAll K H vs (rs.map dRow)
  | _, _, .nil => .nil
  | _, _, .cons ⟨b, g, h0, h1, h2⟩ t => .cons (h0 ▸ dRow_mk (SqT.of h1) (SqT.of h2)) t.dpa
theorem natsOf {p : Nat} : ∀ {l : List V}, (∀ v ∈ l, ∃ g : Nat, v = .int g ∧ g < p) → ∃ gs : List Nat, l = goalsV gs ∧ ∀ g ∈ gs, g < p
  | [], _ => ⟨[], rfl, fun _ h => by cases h⟩
  | v :: l, h => by
    obtain ⟨g, rfl, hg⟩ := h v List.mem_cons_self
    obtain ⟨gs, rfl, hgs⟩ := natsOf (l := l) fun v hv => h v (List.mem_cons_of_mem _ hv)
    exact ⟨g :: gs, rfl, fun x hx => by
      rcases List.mem_cons.mp hx with rfl | hx
      · exact hg
      · exact hgs x hx⟩
theorem SB.free {H H' : Hp} {b c t : Addr} (e : SB b H H') (hB : BagC H' b c) (ht : H' t = none) : H t = none := by
  cases ho : H t with
  | none => rfl
  | some o =>
    exact absurd (e t o (hB.ne ht).1 ho) (by rw [ht]; exact fun h => by cases h)
structure MOk (K : PySem.W.Frag) (H : Hp) (v : V) (m : Mc) : Prop where
  d : Dp K H v (dM m)
  wf : WF m
theorem MOk.same {K : PySem.W.Frag} {H H' : Hp} {v : V} {m : Mc} (h : MOk K H v m) (e : Same H H') : MOk K H' v m := ⟨sm e h.d, h.wf⟩
theorem MOk.bag {K : PySem.W.Frag} {H H' : Hp} {v : V} {m : Mc} {b c : Addr} (h : MOk K H v m) (hB : BagC H b c) (e : SB b H H') : MOk K H' v m := ⟨bagD hB.at' e (okD_M m) h.d, h.wf⟩
theorem wf_of {m : Mc} (hp : isPrm m.p) (h0 : 0 < m.rows.length) (h1 : m.rows.length ≤ 64) (hr : ∀ r ∈ m.rows, RowOk m.p m.rows.length r) (hs : m.start < m.rows.length) : WF m :=
  ⟨hp, h0, h1, fun r h => ⟨(hr r h).t0, (hr r h).t1⟩, fun r h => (hr r h).len, fun r h => (hr r h).goal, hs⟩
theorem mk_mach {K : PySem.W.Frag} {H : Hp} {t lr : Addr} {vs : List V} {m : Mc} (ht : H t = some (.tup [.int m.p, .ref lr, .int m.start])) (hl : H lr = some (.lst vs)) (hr : Rows H vs m.rows) : Dp K H (.ref t) (dM m) :=
  dM_mk (SqT.of ht) (SqL.of hl) hr.dpa
section
variable {P : Program} {w : World} {K : PySem.W.Frag} {mg : Str → Option Value} {base : Heap} {C : Addr}
def KnownT (P : Program) (w : World) (K : PySem.W.Frag) (mg : Str → Option Value) (base : Heap) (C : Addr) : Prop := ∃ f fd, FnOk P w K mg base CX0 5 f fd ["self", "prime", "states", "start"] (spTInit K C) ∧ Mk K C f ∧ mg "Turner" = some (.ref C) ∧ KBn K fd ["self", "prime", "states", "start"] 3 ["start"] (fun us ws => us ++ ws) (fun vs zs => vs ++ zs)
def MadeAt (K : PySem.W.Frag) (C : Addr) (H H' : Hp) (x : Addr) (m : Mc) : Prop := ∃ dx l xs, H x = none ∧ H l = none ∧ H' x = some (.ins C dx (tf m.p l m.start)) ∧ H' l = some (.lst xs) ∧ DpAll K H xs (m.rows.map dRow) ∧ m.rows.length ≤ 64
theorem MadeAt.at' {H H' : Hp} {x : Addr} {m : Mc} (M : MadeAt K C H H' x m) (e : Same H H') : TurnerAt K C H' x m := by
  obtain ⟨dx, l, xs, h1, h2, h3, h4, h5, h6⟩ := M
  exact ⟨dx, l, xs, h3, SqL.of h4, sma e h5, by omega⟩
theorem sqt_mutl {H : Hp} {lg a : Addr} {zs xs : List V} {o : HO} (h : H lg = some (.lst zs)) (t : SqT K H a xs) : SqT K (upd H lg o) a xs := by
  have key : ∀ u, H a = some u → (∀ ys, u ≠ .lst ys) → upd H lg o a = some u := fun u hu hn => by
    rw [upd_ne (fun e => by rw [e, h] at hu; exact hn _ (Option.some.inj hu).symm)]
    exact hu
  rcases t with (t | ⟨u, t⟩) | t
  · exact .inl (.inl (key _ t fun _ q => by cases q))
  · exact .inl (.inr ⟨u, key _ t fun _ q => by cases q⟩)
  · exact .inr t
theorem rows_mutl {H : Hp} {lg : Addr} {zs : List V} {o : HO} (h : H lg = some (.lst zs)) : ∀ {xs : List V} {rs : List (Int × List Nat)}, DpAll K H xs (rs.map dRow) → DpAll K (upd H lg o) xs (rs.map dRow)
  | _, [], .nil => .nil
  | _, r :: rs, .cons h1 h2 => by
    obtain ⟨b, g, rfl, k1, k2⟩ := dRow_un h1
    exact .cons (dRow_mk (sqt_mutl h k1) (sqt_mutl h k2)) (rows_mutl h h2)
theorem MadeAt.mutl {H H' Hc : Hp} {x lg : Addr} {m : Mc} {zs : List V} {o : HO} (M : MadeAt K C H H' x m) (e : Same H H') (e2 : Same H' Hc) (hl : H lg = some (.lst zs)) : TurnerAt K C (upd Hc lg o) x m := by
  obtain ⟨dx, l, xs, h1, h2, h3, h4, h5, h6⟩ := M
  refine ⟨dx, l, xs, ?_, SqL.of ?_, rows_mutl (e2 _ _ (e _ _ hl)) (sma (e.trans e2) h5), by omega⟩
  · rw [upd_ne (fun ab => by rw [ab, hl] at h1; cases h1)]
    exact e2 _ _ h3
  · rw [upd_ne (fun ab => by rw [ab, hl] at h2; cases h2)]
    exact e2 _ _ h4
def spMade (K : PySem.W.Frag) (C : Addr) : Sp := fun vs H Q _ => ∃ (v : V) (m : Mc), vs = [v] ∧ MOk K H v m ∧ ∀ H' x, Same H H' → MadeAt K C H H' x m → Q (.ref x) H'
theorem k_made (R : Raw K mg "_law_made" s_law_made) (B : Bl mg) (F : KnownT P w K mg base C) : Known P w K mg base "_law_made" 7 ["_law_m"] (spMade K C) := by
  refine known R sc_law_made (fun _ _ _ _ _ _ us hl => match us, hl with | [_], _ => rfl) (fun vs H Q E h => by obtain ⟨_, _, rfl, _⟩ := h; rfl) (fun f cdv A outer s H vs Q E hr h => ?_)
  obtain ⟨v, m, rfl, hm, q⟩ := h
  obtain ⟨fT, fdT, FT, MT, hmT, hbT⟩ := F
  refine ⟨_, pss_one (ps_ret (pe_makeK MT FT hr (by rfl) hmT hbT pass0 (pa_cons (pe_ix ix_tup (pv 0) pe_int (fun _ _ => rfl)) (pa_cons (pe_callTy call_list_of (by rfl) B.list (by decide +kernel) (pa_cons (pe_ix ix_tup (pv 0) pe_int (fun _ _ => rfl)) pa_nil)) pa_nil))
    (pk_cons (pe_ix ix_tup (pv 0) pe_int (fun _ _ => rfl)) pk_nil))), ?_⟩
  obtain ⟨a, l, xs, rfl, h1, h2, h3⟩ := dM_un hm.d
  refine ⟨_, rfl, a, _, _, _, rfl, rfl, h1, at_of (j := 0) rfl rfl, _, rfl, a, _, _, _, rfl, rfl, h1, at_of (j := 1) rfl rfl, l, _, rfl, .inl h2, fun l2 hl2 => ?_⟩
  have e1 : Same H (upd H l2 (.lst xs)) := (Same.refl H).new hl2
  refine ⟨_, rfl, a, _, _, _, rfl, rfl, Same.tup e1 h1, at_of (j := 2) rfl rfl, rfl, rfl, fun x dx hx hdx hne => ?_⟩
  have e2 : Same H (upd (upd (upd H l2 (.lst xs)) dx (.own x)) x (.ins C dx [])) := (e1.new hdx).mut (e1.free hx)
  refine ⟨x, dx, l2, m, xs, rfl, upd_same, SqL.of ?_, sma e2 h3, hm.wf, fun H' l' k1 k2 k3 k4 => ⟨rfl, ?_⟩⟩
  · rw [upd_ne (ne_of_none (show (upd (upd H l2 (.lst xs)) dx (.own x)) l2 = some (.lst xs) by rw [upd_ne (ne_of_none upd_same hdx), upd_same]) (by rw [upd_ne (fun e => hne e.symm)]; exact hx)), upd_ne (ne_of_none upd_same hdx), upd_same]
  · refine q H' x (fun b o hb => ?_) ⟨dx, l', xs, e1.free hx, e2.free k2, k4, k3, h3, hm.wf.small⟩
    exact k1 b o (ne_of_none hb (e1.free hx)) (e2 b o hb)
def spPlain (K : PySem.W.Frag) : Sp := fun vs H Q _ => ∃ (b c : Addr) (p top : Nat), vs = [.ref b, .int p, .int top] ∧ BagC H b c ∧ isPrm p ∧ 0 < top ∧ top ≤ 64 ∧ ∀ H' t (m : Mc), SB b H H' → BagC H' b c → MOk K H' (.ref t) m → m.p = p → m.rows.length ≤ top → Q (.ref t) H'
theorem k_plain (R : Raw K mg "_law_plain" s_law_plain) (B : Bl mg) (F1 : Known P w K mg base "_law_pull" 1 ["_law_bag_here", "_law_many"] spPull) (F2 : Known P w K mg base "_law_of" 2 ["_law_bag_here", "_law_some"] spOf)
    (F3 : Known P w K mg base "_law_figures" 2 ["_law_bag_here", "_law_p", "_law_many"] spFigures) : Known P w K mg base "_law_plain" 3 ["_law_bag_here", "_law_p", "_law_top"] (spPlain K) := by
  refine known R sc_law_plain (fun _ _ _ _ _ _ us hl => match us, hl with | [_, _, _], _ => rfl) (fun vs H Q E h => by obtain ⟨_, _, _, _, rfl, _⟩ := h; rfl) (fun f cdv A outer s H vs Q E hr h => ?_)
  obtain ⟨b, c, p, top, rfl, hB, hp, ht0, ht1, q⟩ := h
  have nd := sc_law_plain.nd
  have hp7 : 2 ≤ p ∧ p ≤ 7 := by rcases hp with e | e | e | e <;> omega
  refine ⟨_, pss_cons (ps_set (i := 3) nd rfl (Or.inl rfl) (pe_op op_add pe_int (pk (F1.mono (by decide : 1 ≤ 2)) hr (by rfl) (pa_cons (pv 0) (pa_cons (pv 2) pa_nil)))))
    (pss_cons (ps_set (i := 4) nd rfl (Or.inl rfl) (pe_lst pa_nil))
    (pss_cons (ps_for PassesOwn.never rfl (pi_range1 (by rfl) B.range (pa_cons (pv 3) pa_nil)) (pg_name (i := 5) nd rfl (Or.inl rfl))
      (pss_one (ps_expr (pe_bm PySem.F.plainAttrs_list PySem.F.slot_list_append PySem.F.type_list_append mt_append (pv 4) (pa_cons (pe_tup (pa_cons
        (pk F2 hr (by rfl) (pa_cons (pv 0) (pa_cons (pe_lst (pa_cons pe_int (pa_cons pe_int (pa_cons pe_int (pa_cons (pe_op op_sub (pv 1) pe_int) (pa_cons (pk (F1.mono (by decide : 1 ≤ 2)) hr (by rfl) (pa_cons (pv 0) (pa_cons (pv 1) pa_nil))) pa_nil)))))) pa_nil)))
        (pa_cons (pk F3 hr (by rfl) (pa_cons (pv 0) (pa_cons (pv 3) (pa_cons (pv 1) pa_nil)))) pa_nil))) pa_nil)))))
    (pss_one (ps_ret (pe_tup (pa_cons (pv 1) (pa_cons (pv 4) (pa_cons (pk (F1.mono (by decide : 1 ≤ 2)) hr (by rfl) (pa_cons (pv 0) (pa_cons (pv 3) pa_nil))) pa_nil)))))))), ?_⟩
  refine ⟨_, rfl, _, rfl, b, c, top, rfl, hB, by omega, by omega, fun H1 k e1 hB1 hk => ⟨_, _, rfl, rfl, ?_⟩⟩
  obtain ⟨many, hmany⟩ : ∃ many : Nat, many = 1 + k := ⟨_, rfl⟩
  have em : (1 + (k : Int)) = (many : Int) := by omega
  dsimp only
  rw [em]
  refine ⟨by show 0 ≤ sizeLine; decide, fun lr hlr => ⟨_, rfl, _, rfl, by omega, by omega, ?_⟩⟩
  have e2 : Same H1 (upd H1 lr (.lst [])) := (Same.refl H1).new hlr
  have nlr := hB1.ne hlr
  refine for_it (walk_range (lo := 0)) (fun i σ H' => ∃ (o5 : Option V) (rs : List (Int × List Nat)) (vs : List V), σ = [some (.ref b), some (.int p), some (.int top), some (.int many), some (.ref lr), o5] ∧ SB b H1 H' ∧ BagC H' b c ∧ H' lr = some (.lst vs) ∧ Rows H' vs rs ∧ rs.length = i ∧ ∀ r ∈ rs, RowOk p many r)
    ⟨_, [], [], rfl, e2.sb b, hB1.same e2, upd_same, .nil, rfl, fun _ h => by cases h⟩ (fun _ _ _ _ _ => trivial) ?_ ?_
  · rintro i y σ Hx H2 hi ⟨o5, rs, vs, rfl, e, hB2, hl2, hR, hrl, hok⟩ ⟨rfl, rfl⟩
    refine ⟨_, rfl, .inl ⟨rfl, _, SqL.of hl2⟩, _, rfl, _, rfl, _, _, rfl, rfl, _, rfl, _, rfl, b, c, p, rfl, hB2, by omega, by omega, fun H4 d e4 hB4 hd => ⟨by show 5 ≤ sizeLine; decide, fun l5 hl5 => ?_⟩⟩
    have e5 : Same H4 (upd H4 l5 (.lst [.int 0, .int 0, .int 1, .int (p - 1), .int d])) := (Same.refl H4).new hl5
    refine ⟨b, c, l5, _, rfl, hB4.same e5, upd_same, (hB4.ne hl5).1, fun h => (by cases h), by show 5 ≤ 1000000; decide, fun H6 v e6 hB6 hv => ?_⟩
    obtain ⟨tn, rfl, t0, t1⟩ : ∃ tn : Int, v = .int tn ∧ 0 ≤ tn ∧ tn < (p : Int) := by
      simp only [List.mem_cons, List.not_mem_nil, or_false] at hv
      rcases hv with rfl | rfl | rfl | rfl | rfl
      · exact ⟨0, rfl, by omega, by omega⟩
      · exact ⟨0, rfl, by omega, by omega⟩
      · exact ⟨1, rfl, by omega, by omega⟩
      · exact ⟨_, rfl, by omega, by omega⟩
      · exact ⟨_, rfl, by omega, by omega⟩
    refine ⟨_, rfl, _, rfl, _, rfl, b, c, many, p, rfl, hB6, by omega, by omega, by omega, fun H7 g gs e7 hB7 hg0 hg hgl hgs => ⟨by show 2 ≤ sizeLine; decide, fun t ht => ?_⟩⟩
    have e8 : Same H7 (upd H7 t (.tup [.int tn, .ref g])) := (Same.refl H7).new ht
    have e26 : SB b H2 H7 := (e4.trans (e5.sb b)).trans (e6.trans e7)
    have l7 := e26.ne nlr.1 hl2
    have l8 := e8 _ _ l7
    have tt27 : TT H2 H7 := SB.tt e26 hB2
    refine ⟨lr, vs, _, rfl, rfl, l8, ?_, ?_⟩
    · rw [hR.len, hrl]
      exact Nat.lt_of_le_of_lt (show i ≤ 100000 by omega) (by decide)
    · refine ⟨_, rs ++ [(tn, gs)], _, rfl, ?_, (hB7.same e8).mut nlr, upd_same, ?_, by rw [List.length_append, hrl]; rfl, ?_⟩
      · intro a o na ha
        rw [upd_ne (ne_of_none ha hlr)]
        exact e8 _ _ (e26 _ _ na (e _ _ na ha))
      · refine Rows.tt (tt_mut l8) (Rows.app (r := (tn, gs)) ⟨t, g, rfl, upd_same, ?_⟩ (Rows.tt (tt27.trans e8.tt) hR))
        exact e8 _ _ hg
      · intro r hr'
        rcases List.mem_append.mp hr' with hr' | hr'
        · exact hok r hr'
        · rw [List.mem_singleton] at hr'
          subst hr'
          exact ⟨t0, t1, hgl, hgs⟩
  · rintro σ H2 ⟨o5, rs, vs, rfl, e, hB2, hl2, hR, hrl, hok⟩
    have hrl' : rs.length = many := by
      rw [hrl]
      omega
    refine ⟨_, rfl, _, rfl, _, rfl, _, rfl, b, c, many, rfl, hB2, by omega, by omega, fun H3 k3 e3 hB3 hk3 => ⟨by show 3 ≤ sizeLine; decide, fun t ht => ?_⟩⟩
    have e4 : Same H3 (upd H3 t (.tup [.int p, .ref lr, .int k3])) := (Same.refl H3).new ht
    have l4 := e4 _ _ (e3.ne nlr.1 hl2)
    refine q _ t ⟨p, rs, k3⟩ (e1.trans (e.trans (e3.trans (e4.sb b)))) (hB3.same e4) ⟨mk_mach upd_same l4 (Rows.tt ((SB.tt e3 hB2).trans e4.tt) hR), wf_of hp (by show 0 < rs.length; omega) (by show rs.length ≤ 64; omega) (fun r hr' => ?_) (by show k3 < rs.length; omega)⟩ rfl (by show rs.length ≤ top; omega)
    have := hok r hr'
    show RowOk p rs.length r
    rw [hrl']
    exact this
def spUndone (K : PySem.W.Frag) : Sp := fun vs H Q _ => ∃ (v : V) (m : Mc), vs = [v] ∧ MOk K H v m ∧ ∀ H' t (n : Mc), Same H H' → MOk K H' (.ref t) n → n.p = m.p → n.rows.length = m.rows.length → Q (.ref t) H'
theorem k_undone (R : Raw K mg "_law_undone" s_law_undone) (B : Bl mg) : Known P w K mg base "_law_undone" 1 ["_law_m"] (spUndone K) := by
  refine known R sc_law_undone (fun _ _ _ _ _ _ us hl => match us, hl with | [_], _ => rfl) (fun vs H Q E h => by obtain ⟨_, _, rfl, _⟩ := h; rfl) (fun f cdv A outer s H vs Q E hr h => ?_)
  obtain ⟨v, m, rfl, hm, q⟩ := h
  have nd := sc_law_undone.nd
  have hp7 : 2 ≤ m.p ∧ m.p ≤ 7 := by rcases hm.wf.prime with e | e | e | e <;> omega
  have hsm := hm.wf.small
  have hpos := hm.wf.pos
  refine ⟨_, pss_cons (ps_par (i := 1) (j := 2) (by rfl) nd rfl rfl (by decide) rfl rfl (pa_cons (pe_ix ix_tup (pv 0) pe_int (fun _ _ => rfl)) (pa_cons (pe_lst pa_nil) pa_nil)) (by rfl))
    (pss_cons (ps_for PassesOwn.never rfl (pi_list (pe_ix ix_tup (pv 0) pe_int (fun _ _ => rfl))) (pg_tup rfl (pgs_cons (pg_name (i := 3) nd rfl (.inl rfl)) (pgs_cons (pg_name (i := 4) nd rfl (.inl rfl)) pgs_nil)))
      (pss_cons (ps_set (i := 5) nd rfl (Or.inl rfl) (pe_op op_rep (pe_lst (pa_cons pe_int pa_nil)) (pv 1)))
      (pss_cons (ps_for PassesOwn.never rfl (pi_range1 (by rfl) B.range (pa_cons (pv 1) pa_nil)) (pg_name (i := 6) nd rfl (Or.inl rfl))
        (pss_one (ps_asg (pe_ix ix_tup (pv 4) (pv 6) (fun _ _ => rfl)) (pg_sub (pv 5) (pe_op op_mod (pe_callTy call_int1 (by rfl) B.int (by decide +kernel) (pa_cons (pe_op op_add (pv 6) (pv 3)) pa_nil)) (pv 1)) set_list))))
      (pss_one (ps_expr (pe_bm PySem.F.plainAttrs_list PySem.F.slot_list_append PySem.F.type_list_append mt_append (pv 2) (pa_cons (pe_tup (pa_cons
        (pe_op op_mod (pe_callTy call_int1 (by rfl) B.int (by decide +kernel) (pa_cons (pe_op op_sub (pv 1) (pv 3)) pa_nil)) (pv 1))
        (pa_cons (pe_callTy call_tuple_of (by rfl) B.tuple (by decide +kernel) (pa_cons (pv 5) pa_nil)) pa_nil))) pa_nil)))))))
    (pss_one (ps_ret (pe_tup (pa_cons (pv 1) (pa_cons (pv 2) (pa_cons (pe_ix ix_tup (pv 0) pe_int (fun _ _ => rfl)) pa_nil))))))), ?_⟩
  obtain ⟨a, l, xs, rfl, h1, h2, h3⟩ := dM_un hm.d
  have hxl := rows_len h3
  refine ⟨_, rfl, a, _, _, _, rfl, rfl, h1, at_of (j := 0) rfl rfl, by show 0 ≤ sizeLine; decide, fun lr hlr => ⟨_, _, rfl, ?_⟩⟩
  have e1 : Same H (upd H lr (.lst [])) := (Same.refl H).new hlr
  refine ⟨_, rfl, a, _, _, _, rfl, rfl, Same.tup e1 h1, at_of (j := 1) rfl rfl, l, rfl, ⟨_, e1.seq h2⟩, for_it (walk_list (xs := xs)) (fun i σ H' => ∃ (o3 o4 o5 o6 : Option V) (rs : List (Int × List Nat)) (vs : List V),
    σ = [some (.ref a), some (.int m.p), some (.ref lr), o3, o4, o5, o6] ∧ Same H H' ∧ H' lr = some (.lst vs) ∧ Rows H' vs rs ∧ rs.length = i ∧ ∀ r ∈ rs, RowOk m.p m.rows.length r)
    ⟨_, _, _, _, [], [], rfl, e1, upd_same, .nil, rfl, fun _ h => by cases h⟩ ?_ ?_ ?_⟩
  · rintro i σ H' _ ⟨o3, o4, o5, o6, rs, vs, rfl, e, _⟩
    exact e.seq h2
  · rintro i y σ H2 H3 hi ⟨o3, o4, o5, o6, rs, vs, rfl, e, hl2, hR, hrl, hok⟩ ⟨rfl, hy⟩
    have hr0 : m.rows[i]? = some m.rows[i] := List.getElem?_eq_getElem (by omega)
    generalize m.rows[i] = r at hr0
    have hrm := List.mem_of_getElem? hr0
    obtain ⟨bb, g, hb1, hb2, hb3⟩ := rows_at h3 hr0
    have hb1' : some y = some (V.ref bb) := hy.symm.trans hb1
    cases hb1'
    have hgl : r.2.length = m.p := hm.wf.len r hrm
    obtain ⟨t0, t1⟩ := hm.wf.turn r hrm
    refine ⟨bb, _, rfl, Same.tup e hb2, rfl, _, _, rfl, _, _, rfl, rfl, ?_⟩
    refine ⟨by show 1 ≤ sizeLine; decide, fun p0 hp0 => ⟨_, rfl, p0, _, [.int 0], rfl, rfl, upd_same, by omega, by omega, by show 1 * _ ≤ _; rw [sizeLine_eq]; simp; omega, fun lf hlf => ?_⟩⟩
    have e2 : Same H3 (upd H3 p0 (.lst [.int 0])) := (Same.refl H3).new hp0
    have e3 := e2.new (o := .lst (List.replicate (((m.p : Nat) : Int)).toNat [V.int 0]).flatten) hlf
    have elf : (List.replicate (((m.p : Nat) : Int)).toNat [V.int 0]).flatten = goalsV (List.replicate m.p 0) := by
      rw [Int.toNat_natCast]
      have : ∀ k : Nat, (List.replicate k [V.int 0]).flatten = goalsV (List.replicate k 0) := by
        intro k
        induction k with
        | zero => rfl
        | succ k ih => rw [List.replicate_succ, List.flatten_cons, ih, List.replicate_succ]; rfl
      exact this _
    rw [elf] at e3 ⊢
    have nlf : lf ≠ lr := fun q => by rw [q, e2 _ _ hl2] at hlf; cases hlf
    have hlf3 : H3 lf = none := e2.free hlf
    refine ⟨_, rfl, _, rfl, by omega, by omega, for_it (walk_range (lo := 0)) (fun j σ H' => ∃ (o6 : Option V) (ls : List Nat), σ = [some (.ref a), some (.int m.p), some (.ref lr), some (.int r.1), some (.ref g), some (.ref lf), o6] ∧ Same H3 H' ∧ H' lf = some (.lst (goalsV ls)) ∧ ls.length = m.p ∧ ∀ z ∈ ls, z < m.rows.length)
      ⟨_, List.replicate m.p 0, rfl, e3, upd_same, by simp, fun z hz => by rw [List.eq_of_mem_replicate hz]; exact hpos⟩ (fun _ _ _ _ _ => trivial) ?_ ?_⟩
    · rintro j y σ H4 H5 hj ⟨o6, ls, rfl, e4, hl4, hls, hlz⟩ ⟨rfl, rfl⟩
      have hj' : j < m.p := by omega
      obtain ⟨gj, hgj⟩ : ∃ gj, r.2[j]? = some gj := ⟨_, List.getElem?_eq_getElem (by omega)⟩
      refine ⟨_, rfl, _, rfl, g, _, _, .int gj, rfl, rfl, Same.tup (e.trans e4) hb3, at_of (j := j) (by omega) (by unfold goalsV; rw [List.getElem?_map, hgj]; rfl), ?_⟩
      have hmo0 := Int.emod_nonneg (0 + (j : Int) + r.1) (show (m.p : Int) ≠ 0 by omega)
      have hmo1 := Int.emod_lt_of_pos (0 + (j : Int) + r.1) (show (0 : Int) < m.p by omega)
      obtain ⟨z, hz⟩ := Int.eq_ofNat_of_zero_le hmo0
      refine ⟨_, rfl, _, rfl, _, rfl, _, _, rfl, rfl, .inl ⟨_, rfl, _, rfl, _, _, rfl, rfl, by show (0 : Int) < m.p; omega, lf, _, _, z, rfl, rfl, hl4, ?_, ?_⟩⟩
      · show ixN _ ((0 + (j : Int) + r.1) % (m.p : Int)) = _
        rw [hz]
        exact ixN_nat (by unfold goalsV; rw [List.length_map]; omega)
      · refine ⟨_, ls.set z gj, rfl, e4.mut hlf3, ?_, by rw [List.length_set]; exact hls, fun x hx => ?_⟩
        · rw [upd_same]
          unfold goalsV
          rw [List.map_set]
        · rcases List.mem_or_eq_of_mem_set hx with hx | rfl
          · exact hlz x hx
          · exact hm.wf.goal r hrm _ (List.mem_of_getElem? hgj)
    · rintro σ H4 ⟨o6, ls, rfl, e4, hl4, hls, hlz⟩
      refine ⟨_, rfl, .inl ⟨rfl, _, SqL.of (e4 _ _ hl2)⟩, _, rfl, _, rfl, _, _, rfl, rfl, .inl ⟨_, rfl, _, rfl, _, _, rfl, rfl, by show (0 : Int) < m.p; omega, _, rfl, lf, _, rfl, .inl ⟨SqL.of hl4, fun t1' ht1' => ⟨by show 2 ≤ sizeLine; decide, fun t2 ht2 => ?_⟩⟩⟩⟩
      have e5 : Same H4 (upd H4 t1' (.tup (goalsV ls))) := (Same.refl H4).new ht1'
      have e6 := e5.new (o := .tup [.int ((m.p - r.1) % m.p), .ref t1']) ht2
      have lr6 := e6 _ _ (e4 _ _ hl2)
      refine ⟨lr, vs, _, rfl, rfl, lr6, ?_, ?_⟩
      · rw [hR.len, hrl]
        exact Nat.lt_of_le_of_lt (show i ≤ 100000 by omega) (by decide)
      · refine ⟨_, _, _, _, rs ++ [((m.p - r.1) % m.p, ls)], _, rfl, ?_, upd_same, ?_, by rw [List.length_append, hrl]; rfl, ?_⟩
        · exact (e.trans (e4.trans e6)).mut hlr
        · refine Rows.tt (tt_mut lr6) (Rows.app (r := (((m.p : Int) - r.1) % (m.p : Int), ls)) ⟨t2, t1', rfl, upd_same, ?_⟩ (Rows.tt (e4.trans e6).tt hR))
          rw [upd_ne (ne_of_none upd_same ht2), upd_same]
        · intro r' hr'
          rcases List.mem_append.mp hr' with hr' | hr'
          · exact hok r' hr'
          · rw [List.mem_singleton] at hr'
            subst hr'
            exact ⟨Int.emod_nonneg _ (by omega), Int.emod_lt_of_pos _ (by omega), hls, hlz⟩
  · rintro σ H2 ⟨o3, o4, o5, o6, rs, vs, rfl, e, hl2, hR, hrl, hok⟩
    refine ⟨_, rfl, _, rfl, _, rfl, a, _, _, _, rfl, rfl, Same.tup e h1, at_of (j := 2) rfl rfl, by show 3 ≤ sizeLine; decide, fun t ht => ?_⟩
    have e3 : Same H2 (upd H2 t (.tup [.int m.p, .ref lr, .int m.start])) := (Same.refl H2).new ht
    have hrl' : rs.length = m.rows.length := by omega
    exact q _ t ⟨m.p, rs, m.start⟩ (e.trans e3) ⟨mk_mach upd_same (e3 _ _ hl2) (Rows.tt e3.tt hR), wf_of hm.wf.prime (by show 0 < rs.length; omega) (by show rs.length ≤ 64; omega) (fun r hr' => by
      have := hok r hr'
      show RowOk m.p rs.length r
      rw [hrl']
      exact this) (by show m.start < rs.length; rw [hrl']; exact hm.wf.start)⟩ rfl hrl'
end
end L2.K55
namespace L2.K55
open PySem PySem.Spec PyProof.Rows
def dK (q : Nat × Nat) : PyData := .tuple [.int q.1, .int q.2]
def KeyAt (H : Hp) (v : V) (q : Nat × Nat) : Prop := ∃ t, v = .ref t ∧ H t = some (.tup [.int q.1, .int q.2])
theorem KeyAt.tt {H H' : Hp} {v : V} {r : Nat × Nat} (h : KeyAt H v r) (e : TT H H') : KeyAt H' v r := by
  obtain ⟨b, h0, h1⟩ := h
  exact ⟨b, h0, e _ _ h1⟩
inductive Keys (H : Hp) : List V → List (Nat × Nat) → Prop where
  | nil : Keys H [] []
  | cons {v vs r rs} (h : KeyAt H v r) (t : Keys H vs rs) : Keys H (v :: vs) (r :: rs)
theorem Keys.tt {H H' : Hp} (e : TT H H') : ∀ {vs rs}, Keys H vs rs → Keys H' vs rs
  | _, _, .nil => .nil
  | _, _, .cons h t => .cons (h.tt e) (t.tt e)
theorem Keys.app {H : Hp} {v : V} {r} (h : KeyAt H v r) : ∀ {vs rs}, Keys H vs rs → Keys H (vs ++ [v]) (rs ++ [r])
  | _, _, .nil => .cons h .nil
  | _, _, .cons h1 t => .cons h1 (t.app h)
theorem Keys.len {H : Hp} : ∀ {vs rs}, Keys H vs rs → vs.length = rs.length
  | _, _, .nil => rfl
  | _, _, .cons h t => congrArg Nat.succ t.len
theorem KeyAt.dp {K : PySem.W.Frag} {H : Hp} {v : V} {q : Nat × Nat} (h : KeyAt H v q) : Dp K H v (dK q) := by
  obtain ⟨t, rfl, h⟩ := h
  exact .tup (SqT.of h) (.cons (.int _) (.cons (.int _) .nil))
theorem Keys.dpa {K : PySem.W.Frag} {H : Hp} : ∀ {vs rs}, Keys H vs rs → DpAll K H vs (rs.map dK)
  | _, _, .nil => .nil
  | _, _, .cons h t => .cons h.dp t.dpa
theorem Keys.get {H : Hp} : ∀ {vs rs} {i : Nat} {q}, Keys H vs rs → rs[i]? = some q → ∃ v, vs[i]? = some v ∧ KeyAt H v q
  | _, _, i, _, .nil, h => by simp at h
  | _, _, 0, _, .cons h1 t, h => by
    simp at h
    subst h
    exact ⟨_, rfl, h1⟩
  | _, _, i + 1, q, .cons h1 t, h => by
    obtain ⟨v, e1, e2⟩ := Keys.get (i := i) (q := q) t (by simpa using h)
    exact ⟨v, by simpa using e1, e2⟩
theorem eqv_dK (a b : Nat × Nat) : PyData.eqv (dK a) (dK b) = decide (a = b) := by
  obtain ⟨a1, a2⟩ := a
  obtain ⟨b1, b2⟩ := b
  show PyData.eqv (.tuple [.int a1, .int a2]) (.tuple [.int b1, .int b2]) = _
  rw [PyData.eqv, PyData.eqvAll, PyData.eqvAll, PyData.eqvAll, PyData.eqv, PyData.eqv, Bool.and_true]
  by_cases h1 : a1 = b1
  · by_cases h2 : a2 = b2
    · subst h1; subst h2; simp
    · rw [decide_eq_false (fun e => h2 (congrArg Prod.snd e))]
      have : ((a2 : Int) == (b2 : Int)) = false := by rw [beq_eq_false_iff_ne]; omega
      simp [this]
  · rw [decide_eq_false (fun e => h1 (congrArg Prod.fst e))]
    simp
    omega
theorem any_dK (ks : List (Nat × Nat)) (q : Nat × Nat) : ((ks.map dK).any fun z => PyData.eqv z (dK q)) = decide (q ∈ ks) := by
  induction ks with
  | nil => rfl
  | cons k ks ih =>
    rw [List.map_cons, List.any_cons, ih, eqv_dK]
    by_cases h : k = q
    · subst h; simp
    · have h' : ¬ q = k := fun e => h e.symm
      simp [h, h']
theorem first_at {α : Type} [DecidableEq α] : ∀ {l : List α} {x : α}, x ∈ l → ∃ j, l[j]? = some x ∧ j < l.length ∧ ∀ (m : Nat) y, m < j → l[m]? = some y → y ≠ x
  | a :: l, x, h => by
    by_cases e : a = x
    · exact ⟨0, by rw [e]; rfl, Nat.succ_pos _, fun m y hm => by omega⟩
    · obtain ⟨j, h1, h2, h3⟩ := first_at (l := l) (x := x) (by
        rcases List.mem_cons.mp h with h | h
        · exact absurd h.symm e
        · exact h)
      refine ⟨j + 1, by simpa using h1, by simpa using h2, fun m y hm hy => ?_⟩
      cases m with
      | zero =>
        simp at hy
        subst hy
        exact e
      | succ m => exact h3 m y (by omega) (by simpa using hy)
theorem lay_keys : ∀ ks : List (Nat × Nat), PyData.canLayAll0 (ks.map dK) = true
  | [] => by simp [PyData.canLayAll0]
  | r :: rs => by simp [PyData.canLayAll0, PyData.canLay0, dK, lay_keys rs]
theorem depth_keys : ∀ ks : List (Nat × Nat), PyData.depthAll (ks.map dK) ≤ 1
  | [] => by simp [PyData.depthAll]
  | r :: rs => by
    have := depth_keys rs
    have h : PyData.depth (dK r) = 1 := by simp [dK, PyData.depthAll, PyData.depth]
    rw [List.map_cons, PyData.depthAll, h]
    exact Nat.max_le.mpr ⟨Nat.le_refl _, this⟩
theorem shaped_keys (ks : List (Nat × Nat)) : SeqAt.shaped (.list (ks.map dK)) = true := by
  show (PyData.canLay0 (.list (ks.map dK)) && decide (PyData.depth (.list (ks.map dK)) ≤ 64)) = true
  rw [PyData.canLay0, PyData.depth, lay_keys, Bool.true_and]
  exact decide_eq_true (by have := depth_keys ks; omega)
theorem shaped_dK (q : Nat × Nat) : SeqAt.shaped (dK q) = true := by
  show (PyData.canLay0 (dK q) && decide (PyData.depth (dK q) ≤ 64)) = true
  simp [dK, PyData.canLay0, PyData.canLayAll0, PyData.depth, PyData.depthAll]
theorem RowOk.mono {p many many' : Nat} {r : Int × List Nat} (h : RowOk p many r) (e : many ≤ many') : RowOk p many' r := ⟨h.t0, h.t1, h.len, fun g hg => Nat.lt_of_lt_of_le (h.goal g hg) e⟩
section
variable {P : Program} {w : World} {K : PySem.W.Frag} {mg : Str → Option Value} {base : Heap} {C : Addr}
def odo (p : Nat) : Mc := ⟨p, [(1, List.replicate (p - 1) 1 ++ [0]), (0, List.replicate p 1)], 0⟩
theorem odo_wf {p : Nat} (h : isPrm p) : WF (odo p) := by
  have hp7 : 2 ≤ p ∧ p ≤ 7 := by rcases h with e | e | e | e <;> omega
  refine wf_of h (by decide : 0 < 2) (by decide : 2 ≤ 64) (fun r hr => ?_) (by decide : 0 < 2)
  have hr' : r = (1, List.replicate (p - 1) 1 ++ [0]) ∨ r = (0, List.replicate p 1) := by
    have : r ∈ [((1 : Int), List.replicate (p - 1) 1 ++ [0]), (0, List.replicate p 1)] := hr
    simpa using this
  rcases hr' with rfl | rfl
  · refine ⟨by show (0 : Int) ≤ 1; decide, by show (1 : Int) < p; omega, by show (List.replicate (p - 1) 1 ++ [0]).length = p; simp; omega, fun g hg => ?_⟩
    show g < 2
    rcases List.mem_append.mp hg with hg | hg
    · rw [List.eq_of_mem_replicate hg]; decide
    · rw [List.mem_singleton.mp hg]; decide
  · refine ⟨by show (0 : Int) ≤ 0; decide, by show (0 : Int) < p; omega, by show (List.replicate p 1).length = p; simp, fun g hg => ?_⟩
    show g < 2
    rw [List.eq_of_mem_replicate hg]; decide
def spOdo (K : PySem.W.Frag) : Sp := fun vs H Q _ => ∃ (p : Nat), vs = [.int p] ∧ isPrm p ∧ ∀ H' t, Same H H' → MOk K H' (.ref t) (odo p) → Q (.ref t) H'
theorem k_odo (R : Raw K mg "_law_odometer" s_law_odometer) : Known P w K mg base "_law_odometer" 1 ["_law_p"] (spOdo K) := by
  refine known R sc_law_odometer (fun _ _ _ _ _ _ us hl => match us, hl with | [_], _ => rfl) (fun vs H Q E h => by obtain ⟨_, rfl, _⟩ := h; rfl) (fun f cdv A outer s H vs Q E hr h => ?_)
  obtain ⟨p, rfl, hp, q⟩ := h
  have hp7 : 2 ≤ p ∧ p ≤ 7 := by rcases hp with e | e | e | e <;> omega
  refine ⟨_, pss_one (ps_ret (pe_tup (pa_cons (pv 0) (pa_cons (pe_lst (pa_cons (pe_tup (pa_cons pe_int (pa_cons (pe_op op_catT (pe_op op_repA (pe_tup (pa_cons pe_int pa_nil)) (pe_op op_sub (pv 0) pe_int)) (pe_tup (pa_cons pe_int pa_nil))) pa_nil)))
    (pa_cons (pe_tup (pa_cons pe_int (pa_cons (pe_op op_repA (pe_tup (pa_cons pe_int pa_nil)) (pv 0)) pa_nil))) pa_nil))) (pa_cons pe_int pa_nil))))), ?_⟩
  have ep : ((p : Int) - 1) = ((p - 1 : Nat) : Int) := by omega
  refine ⟨_, rfl, by show 1 ≤ sizeLine; decide, fun t1 ht1 => ⟨_, rfl, _, _, rfl, rfl, ?_⟩⟩
  dsimp only
  rw [ep]
  have e1 : Same H (upd H t1 (.tup [.int 1])) := (Same.refl H).new ht1
  refine repA_ones upd_same (by omega) (by omega) fun t2 H2 e2 h2 => ⟨by show 1 ≤ sizeLine; decide, fun t3 ht3 => ?_⟩
  have e3 : Same H2 (upd H2 t3 (.tup [.int 0])) := (Same.refl H2).new ht3
  refine ⟨t2, t3, _, _, rfl, rfl, SqT.of (e3 _ _ h2), SqT.of upd_same, ?_, ?_, fun h => (by cases h), fun _ t4 ht4 => ⟨by show 2 ≤ sizeLine; decide, fun t5 ht5 => ⟨by show 1 ≤ sizeLine; decide, fun t6 ht6 => ⟨_, rfl, ?_⟩⟩⟩⟩
  · intro h
    have := congrArg List.length h
    rw [List.length_replicate] at this
    have h0 : p - 1 = 0 := this
    omega
  · rw [List.length_replicate]
    exact Nat.le_trans (show p - 1 + 1 ≤ 1000 by omega) (by decide)
  have e4 := e3.new (o := .tup (List.replicate (p - 1) (V.int 1) ++ [.int 0])) ht4
  have h44 : (upd (upd H2 t3 (.tup [.int 0])) t4 (.tup (List.replicate (p - 1) (V.int 1) ++ [.int 0]))) t4 = some (.tup (List.replicate (p - 1) (V.int 1) ++ [.int 0])) := upd_same
  generalize upd (upd H2 t3 (.tup [.int 0])) t4 (.tup (List.replicate (p - 1) (V.int 1) ++ [.int 0])) = H4 at *
  have e5 : Same H4 (upd H4 t5 (.tup [.int 1, .ref t4])) := (Same.refl H4).new ht5
  have h55 : (upd H4 t5 (.tup [.int 1, .ref t4])) t5 = some (.tup [.int 1, .ref t4]) := upd_same
  generalize upd H4 t5 (.tup [.int 1, .ref t4]) = H5 at *
  have e6 : Same H5 (upd H5 t6 (.tup [.int 1])) := (Same.refl H5).new ht6
  refine repA_ones upd_same (by omega) (by omega) fun t7 H7 e7 h7 => ⟨by show 2 ≤ sizeLine; decide, fun t8 ht8 => ⟨by show 2 ≤ sizeLine; decide, fun t9 ht9 => ⟨by show 3 ≤ sizeLine; decide, fun ta hta => ?_⟩⟩⟩
  have e8 : Same H7 (upd H7 t8 (.tup [.int 0, .ref t7])) := (Same.refl H7).new ht8
  have h88 : (upd H7 t8 (.tup [.int 0, .ref t7])) t8 = some (.tup [.int 0, .ref t7]) := upd_same
  generalize upd H7 t8 (.tup [.int 0, .ref t7]) = H8 at *
  have e9 : Same H8 (upd H8 t9 (.lst [.ref t5, .ref t8])) := (Same.refl H8).new ht9
  have h99 : (upd H8 t9 (.lst [.ref t5, .ref t8])) t9 = some (.lst [.ref t5, .ref t8]) := upd_same
  generalize upd H8 t9 (.lst [.ref t5, .ref t8]) = H9 at *
  have ea : Same H9 (upd H9 ta (.tup [.int p, .ref t9, .int 0])) := (Same.refl H9).new hta
  have up5 : Same H5 (upd H9 ta (.tup [.int p, .ref t9, .int 0])) := (e6.trans e7).trans (e8.trans (e9.trans ea))
  have up7 : Same H7 (upd H9 ta (.tup [.int p, .ref t9, .int 0])) := e8.trans (e9.trans ea)
  refine q _ ta ((e1.trans (e2.trans e4)).trans (e5.trans up5)) ⟨mk_mach (m := odo p) upd_same (ea _ _ h99) (.cons ⟨t5, t4, rfl, up5 _ _ h55, ?_⟩ (.cons ⟨t8, t7, rfl, ea _ _ (e9 _ _ h88), ?_⟩ .nil)), odo_wf hp⟩
  · have : goalsV (List.replicate (p - 1) 1 ++ [0]) = List.replicate (p - 1) (V.int 1) ++ [.int 0] := by
      unfold goalsV
      rw [List.map_append, List.map_replicate]
      rfl
    show _ = some (HO.tup (goalsV (List.replicate (p - 1) 1 ++ [0])))
    rw [this]
    exact (e5.trans up5) _ _ h44
  · have : goalsV (List.replicate p 1) = List.replicate p (V.int 1) := by
      unfold goalsV
      rw [List.map_replicate]
      rfl
    show _ = some (HO.tup (goalsV (List.replicate p 1)))
    rw [this]
    exact up7 _ _ h7
def spJoined (K : PySem.W.Frag) : Sp := fun vs H Q _ => ∃ (u v : V) (m n : Mc), vs = [u, v] ∧ MOk K H u m ∧ MOk K H v n ∧ m.p = n.p ∧ m.rows.length * n.rows.length ≤ 64 ∧
  ∀ H' t (k : Mc), Same H H' → MOk K H' (.ref t) k → k.p = m.p → k.rows.length ≤ m.rows.length * n.rows.length → Q (.ref t) H'
theorem k_joined (R : Raw K mg "_law_joined" s_law_joined) (B : Bl mg) : Known P w K mg base "_law_joined" 1 ["_law_m", "_law_n"] (spJoined K) := by
  refine known R sc_law_joined (fun _ _ _ _ _ _ us hl => match us, hl with | [_, _], _ => rfl) (fun vs H Q E h => by obtain ⟨_, _, _, _, rfl, _⟩ := h; rfl) (fun f cdv A outer s H vs Q E hr h => ?_)
  obtain ⟨u, v, m, n, rfl, hm, hn, hpe, hmn, q⟩ := h
  have nd := sc_law_joined.nd
  have hp7 : 2 ≤ m.p ∧ m.p ≤ 7 := by rcases hm.wf.prime with e | e | e | e <;> omega
  have h65 : (A.deeper (envOfC "_law_joined" (defScope s_law_joined) s.heap.objs.size f cdv)).units + 65 < cLine := by have := hr.un; omega
  refine ⟨_, pss_cons (ps_par3 (i := 2) (j := 3) (l := 4) (by rfl) nd rfl rfl rfl (by decide) (by decide) (by decide) rfl rfl rfl (pa_cons (pe_ix ix_tup (pv 0) pe_int (fun _ _ => rfl))
      (pa_cons (pe_lst (pa_cons (pe_tup (pa_cons (pe_ix ix_tup (pv 0) pe_int (fun _ _ => rfl)) (pa_cons (pe_ix ix_tup (pv 1) pe_int (fun _ _ => rfl)) pa_nil))) pa_nil)) (pa_cons (pe_lst pa_nil) pa_nil))) (by rfl))
    (pss_cons (ps_while PassesOwn.never (pt_cmpR op_lt (pe_callB call_len_seq (by rfl) B.len PySem.boot_len (pa_cons (pv 4) pa_nil)) (pe_callB call_len_seq (by rfl) B.len PySem.boot_len (pa_cons (pv 3) pa_nil)) (nomark _))
      (pss_cons (ps_asg (pe_ix ix_list (pv 3) (pe_callB call_len_seq (by rfl) B.len PySem.boot_len (pa_cons (pv 4) pa_nil)) (fun _ _ => rfl)) (pg_tup rfl (pgs_cons (pg_name (i := 5) nd rfl (.inl rfl)) (pgs_cons (pg_name (i := 6) nd rfl (.inl rfl)) pgs_nil))))
      (pss_cons (ps_par (i := 7) (j := 8) (by rfl) nd rfl rfl (by decide) rfl rfl (pa_cons (pe_ix ix_tup (pe_ix ix_list (pe_ix ix_tup (pv 0) pe_int (fun _ _ => rfl)) (pv 5) (fun _ _ => rfl)) pe_int (fun _ _ => rfl)) (pa_cons (pe_lst pa_nil) pa_nil)) (by rfl))
      (pss_cons (ps_for PassesOwn.never rfl (pi_range1 (by rfl) B.range (pa_cons (pv 2) pa_nil)) (pg_name (i := 9) nd rfl (Or.inl rfl))
        (pss_cons (ps_set (i := 10) nd rfl (Or.inl rfl) (pe_tup (pa_cons (pe_ix ix_tup (pe_ix ix_tup (pe_ix ix_list (pe_ix ix_tup (pv 0) pe_int (fun _ _ => rfl)) (pv 5) (fun _ _ => rfl)) pe_int (fun _ _ => rfl)) (pv 9) (fun _ _ => rfl))
          (pa_cons (pe_ix ix_tup (pe_ix ix_tup (pe_ix ix_list (pe_ix ix_tup (pv 1) pe_int (fun _ _ => rfl)) (pv 6) (fun _ _ => rfl)) pe_int (fun _ _ => rfl)) (pe_op op_mod (pe_callTy call_int1 (by rfl) B.int (by decide +kernel) (pa_cons (pe_op op_add (pv 9) (pv 7)) pa_nil)) (pv 2)) (fun _ _ => rfl)) pa_nil))))
        (pss_cons (ps_if (pt_cmpR (op_notInD h65) (pv 10) (pv 3) (by rfl)) (pss_one (ps_expr (pe_bm PySem.F.plainAttrs_list PySem.F.slot_list_append PySem.F.type_list_append mt_append (pv 3) (pa_cons (pv 10) pa_nil)))) pss_nil)
        (pss_one (ps_expr (pe_bm PySem.F.plainAttrs_list PySem.F.slot_list_append PySem.F.type_list_append mt_append (pv 8) (pa_cons (pe_bm PySem.F.plainAttrs_list PySem.F.slot_list_index PySem.F.type_list_index (mt_indexD h65) (pv 3) (pa_cons (pv 10) pa_nil)) pa_nil)))))))
      (pss_one (ps_expr (pe_bm PySem.F.plainAttrs_list PySem.F.slot_list_append PySem.F.type_list_append mt_append (pv 4) (pa_cons (pe_tup (pa_cons
        (pe_op op_mod (pe_callTy call_int1 (by rfl) B.int (by decide +kernel) (pa_cons (pe_op op_add (pv 7) (pe_ix ix_tup (pe_ix ix_list (pe_ix ix_tup (pv 1) pe_int (fun _ _ => rfl)) (pv 6) (fun _ _ => rfl)) pe_int (fun _ _ => rfl))) pa_nil)) (pv 2))
        (pa_cons (pe_callTy call_tuple_of (by rfl) B.tuple (by decide +kernel) (pa_cons (pv 8) pa_nil)) pa_nil))) pa_nil))))))))
    (pss_one (ps_ret (pe_tup (pa_cons (pv 2) (pa_cons (pv 4) (pa_cons pe_int pa_nil))))))), ?_⟩
  obtain ⟨a1, l1, xs1, rfl, m1, m2, m3⟩ := dM_un hm.d
  obtain ⟨a2, l2, xs2, rfl, n1, n2, n3⟩ := dM_un hn.d
  have hx1 := rows_len m3
  have hx2 := rows_len n3
  have hs1 := hm.wf.small
  have hs2 := hn.wf.small
  refine ⟨_, rfl, a1, _, _, _, rfl, rfl, m1, at_of (j := 0) rfl rfl, _, rfl, a1, _, _, _, rfl, rfl, m1, at_of (j := 2) rfl rfl, _, rfl, a2, _, _, _, rfl, rfl, n1, at_of (j := 2) rfl rfl, by show 2 ≤ sizeLine; decide, fun tk htk => ⟨by show 1 ≤ sizeLine; decide, fun lk hlk => ⟨by show 0 ≤ sizeLine; decide, fun lr hlr => ⟨_, _, _, rfl, ?_⟩⟩⟩⟩
  have e1 : Same H (upd H tk (.tup [.int m.start, .int n.start])) := (Same.refl H).new htk
  have htk1 : (upd H tk (.tup [.int m.start, .int n.start])) tk = some (.tup [.int m.start, .int n.start]) := upd_same
  generalize upd H tk (.tup [.int m.start, .int n.start]) = H1 at *
  have e2 : Same H1 (upd H1 lk (.lst [.ref tk])) := (Same.refl H1).new hlk
  have hlk2 : (upd H1 lk (.lst [.ref tk])) lk = some (.lst [.ref tk]) := upd_same
  generalize upd H1 lk (.lst [.ref tk]) = H2 at *
  have e3 : Same H2 (upd H2 lr (.lst [])) := (Same.refl H2).new hlr
  have nrk : lk ≠ lr := ne_of_none hlk2 hlr
  have hlr3 : (upd H2 lr (.lst [])) lr = some (.lst []) := upd_same
  have hlk3 := e3 _ _ hlk2
  have htk3 := e3 _ _ (e2 _ _ htk1)
  have e03 := e1.trans (e2.trans e3)
  have hlk0 : H lk = none := e1.free hlk
  have hlr0 : H lr = none := (e1.trans e2).free hlr
  generalize upd H2 lr (.lst []) = H3 at *
  refine while_d (fun μ σ H' => ∃ (o5 o6 o7 o8 o9 o10 : Option V) (ks : List (Nat × Nat)) (rs : List (Int × List Nat)) (vk vr : List V), μ = m.rows.length * n.rows.length - rs.length ∧
      σ = [some (.ref a1), some (.ref a2), some (.int m.p), some (.ref lk), some (.ref lr), o5, o6, o7, o8, o9, o10] ∧ Same H H' ∧ H' lk = some (.lst vk) ∧ H' lr = some (.lst vr) ∧ Keys H' vk ks ∧ Rows H' vr rs ∧ ks.Nodup ∧
      (∀ q ∈ ks, q.1 < m.rows.length ∧ q.2 < n.rows.length) ∧ (∀ r ∈ rs, RowOk m.p ks.length r) ∧ rs.length ≤ ks.length ∧ 0 < ks.length) _
    ⟨none, none, none, none, none, none, [(m.start, n.start)], [], [.ref tk], [], rfl, rfl, e03, hlk3, hlr3, .cons ⟨tk, rfl, htk3⟩ .nil, .nil, by simp, by simpa using ⟨hm.wf.start, hn.wf.start⟩, fun _ h => (by cases h), Nat.zero_le _, Nat.succ_pos _⟩ ?_
  rintro μ σ H4 ⟨o5, o6, o7, o8, o9, o10, ks, rs, vk, vr, rfl, rfl, e4, hk4, hr4, hK, hR, hnd, hkb, hok, hle, hkpos⟩
  have hkl := nodup_pairs _ _ ks hnd hkb
  refine ⟨_, rfl, lr, vr, rfl, .inl (SqL.of hr4), _, rfl, lk, vk, rfl, .inl (SqL.of hk4), _, _, rfl, rfl, _, rfl, ?_⟩
  rw [hK.len, hR.len]
  by_cases hlt : rs.length < ks.length
  · obtain ⟨q0, hq0⟩ : ∃ q0, ks[rs.length]? = some q0 := ⟨_, List.getElem?_eq_getElem hlt⟩
    obtain ⟨vq, hvq, tq, rfl, htq⟩ := hK.get hq0
    obtain ⟨qa, qb⟩ := hkb q0 (List.mem_of_getElem? hq0)
    obtain ⟨ra, hra⟩ : ∃ ra, m.rows[q0.1]? = some ra := ⟨_, List.getElem?_eq_getElem qa⟩
    obtain ⟨rb, hrb⟩ : ∃ rb, n.rows[q0.2]? = some rb := ⟨_, List.getElem?_eq_getElem qb⟩
    obtain ⟨b1, g1, hb1, hb2, hb3⟩ := rows_at m3 hra
    obtain ⟨b2, g2, hc1, hc2, hc3⟩ := rows_at n3 hrb
    have hram := List.mem_of_getElem? hra
    have hrbm := List.mem_of_getElem? hrb
    have hal := hm.wf.len ra hram
    have hbl := hn.wf.len rb hrbm
    refine ifT (decide_eq_true (by omega)) ⟨_, fun _ _ h => h, ?_⟩
    refine ⟨_, rfl, _, rfl, lr, vr, rfl, .inl (SqL.of hr4), lk, _, _, .ref tq, rfl, rfl, SqL.of hk4, at_of (j := rs.length) (by rw [hR.len]) hvq, tq, _, rfl, SqT.of htq, rfl, _, _, rfl, _, _, rfl, rfl, ?_⟩
    refine ⟨_, rfl, a1, _, _, _, rfl, rfl, Same.tup e4 m1, at_of (j := 1) rfl rfl, _, rfl, l1, _, _, .ref b1, rfl, rfl, e4.seq m2, at_of (j := q0.1) rfl hb1, b1, _, _, _, rfl, rfl, Same.tup e4 hb2, at_of (j := 0) rfl rfl, by show 0 ≤ sizeLine; decide, fun lg hlg => ⟨_, _, rfl, ?_⟩⟩
    have e5 : Same H4 (upd H4 lg (.lst [])) := (Same.refl H4).new hlg
    have nlk : lk ≠ lg := ne_of_none hk4 hlg
    have nlr : lr ≠ lg := ne_of_none hr4 hlg
    have hlg0 : H lg = none := e4.free hlg
    refine ⟨_, rfl, _, rfl, by omega, by omega, for_it (walk_range (lo := 0)) (fun i σ H' => ∃ (o9 o10 : Option V) (ks' : List (Nat × Nat)) (vk' : List V) (gs : List Nat),
      σ = [some (.ref a1), some (.ref a2), some (.int m.p), some (.ref lk), some (.ref lr), some (.int q0.1), some (.int q0.2), some (.int ra.1), some (.ref lg), o9, o10] ∧ Same H H' ∧ H' lk = some (.lst vk') ∧ H' lr = some (.lst vr) ∧ H' lg = some (.lst (goalsV gs)) ∧
      Keys H' vk' ks' ∧ Rows H' vr rs ∧ ks'.Nodup ∧ (∀ q ∈ ks', q.1 < m.rows.length ∧ q.2 < n.rows.length) ∧ ks.length ≤ ks'.length ∧ gs.length = i ∧ ∀ g ∈ gs, g < ks'.length)
      ⟨_, _, ks, vk, [], rfl, e4.trans e5, e5 _ _ hk4, e5 _ _ hr4, upd_same, Keys.tt e5.tt hK, Rows.tt e5.tt hR, hnd, hkb, Nat.le_refl _, rfl, fun _ h => (by cases h)⟩ (fun _ _ _ _ _ => trivial) ?_ ?_⟩
    · rintro i y σ Hx Hc hi ⟨o9, o10, ks', vk', gs, rfl, ec, hkc, hrc, hgc, hKc, hRc, hndc, hkbc, hlec, hgl, hgb⟩ ⟨rfl, rfl⟩
      have hip : i < m.p := by omega
      obtain ⟨ga, hga⟩ : ∃ ga, ra.2[i]? = some ga := ⟨_, List.getElem?_eq_getElem (by omega)⟩
      have hmo0 := Int.emod_nonneg (0 + (i : Int) + ra.1) (show (m.p : Int) ≠ 0 by omega)
      have hmo1 := Int.emod_lt_of_pos (0 + (i : Int) + ra.1) (show (0 : Int) < m.p by omega)
      obtain ⟨z, hz⟩ := Int.eq_ofNat_of_zero_le hmo0
      obtain ⟨gb, hgb'⟩ : ∃ gb, rb.2[z]? = some gb := ⟨_, List.getElem?_eq_getElem (by omega)⟩
      refine ⟨_, rfl, a1, _, _, _, rfl, rfl, Same.tup ec m1, at_of (j := 1) rfl rfl, _, rfl, l1, _, _, .ref b1, rfl, rfl, ec.seq m2, at_of (j := q0.1) rfl hb1, b1, _, _, _, rfl, rfl, Same.tup ec hb2, at_of (j := 1) rfl rfl,
        _, rfl, g1, _, _, .int ga, rfl, rfl, Same.tup ec hb3, at_of (j := i) (by omega) (by unfold goalsV; rw [List.getElem?_map, hga]; rfl), ?_⟩
      refine ⟨_, rfl, a2, _, _, _, rfl, rfl, Same.tup ec n1, at_of (j := 1) rfl rfl, _, rfl, l2, _, _, .ref b2, rfl, rfl, ec.seq n2, at_of (j := q0.2) rfl hc1, b2, _, _, _, rfl, rfl, Same.tup ec hc2, at_of (j := 1) rfl rfl,
        _, rfl, _, rfl, _, _, rfl, rfl, .inl ⟨_, rfl, _, rfl, _, _, rfl, rfl, by show (0 : Int) < m.p; omega, g2, _, _, .int gb, rfl, rfl, Same.tup ec hc3, at_of (j := z) (by show (0 + (i : Int) + ra.1) % (m.p : Int) = z; exact hz) (by unfold goalsV; rw [List.getElem?_map, hgb']; rfl), ?_⟩⟩
      refine ⟨by show 2 ≤ sizeLine; decide, fun t ht => ?_⟩
      have e6 : Same Hc (upd Hc t (.tup [.int ga, .int gb])) := (Same.refl Hc).new ht
      have hkat : KeyAt (upd Hc t (.tup [.int ga, .int gb])) (.ref t) (ga, gb) := ⟨t, rfl, upd_same⟩
      have ed := ec.trans e6
      have hkd := e6 _ _ hkc
      have hrd := e6 _ _ hrc
      have hgd := e6 _ _ hgc
      have hKd := Keys.tt e6.tt hKc
      have hRd := Rows.tt e6.tt hRc
      generalize upd Hc t (.tup [.int ga, .int gb]) = Hd at *
      have hkl' := nodup_pairs _ _ ks' hndc hkbc
      have hgan : ga < m.rows.length := hm.wf.goal ra hram ga (List.mem_of_getElem? hga)
      have hgbn : gb < n.rows.length := hn.wf.goal rb hrbm gb (List.mem_of_getElem? hgb')
      dsimp only
      refine seq_j (t := tIfS _ _ _) (fun σ' H' => ∃ (ks2 : List (Nat × Nat)) (vk2 : List V),
        σ' = [some (.ref a1), some (.ref a2), some (.int m.p), some (.ref lk), some (.ref lr), some (.int q0.1), some (.int q0.2), some (.int ra.1), some (.ref lg), some (.int (0 + (i : Int))), some (.ref t)] ∧ Same H H' ∧ H' lk = some (.lst vk2) ∧ H' lr = some (.lst vr) ∧ H' lg = some (.lst (goalsV gs)) ∧
        Keys H' vk2 ks2 ∧ Rows H' vr rs ∧ ks2.Nodup ∧ (∀ q ∈ ks2, q.1 < m.rows.length ∧ q.2 < n.rows.length) ∧ ks'.length ≤ ks2.length ∧ (ga, gb) ∈ ks2 ∧ KeyAt H' (.ref t) (ga, gb)) ?_ fun join => ?_
      · rintro σ' H6 ⟨ks2, vk2, rfl, e7, hk6, hr6, hg6, hK6, hR6, hnd6, hkb6, hle6, hmem, hkat6⟩
        obtain ⟨j, j1, j2, j3⟩ := first_at hmem
        refine ⟨_, rfl, .inl ⟨rfl, _, SqL.of hg6⟩, _, rfl, .inl ⟨rfl, _, SqL.of hk6⟩, _, rfl, lk, _, dK (ga, gb), ks2.map dK, j, dK (ga, gb), rfl, rfl, .lst (SqL.of hk6) hK6.dpa, hkat6.dp, shaped_keys _, shaped_dK _, by rw [List.getElem?_map, j1]; rfl, by rw [eqv_dK]; exact decide_eq_true rfl, ?_,
          lg, _, _, rfl, rfl, hg6, ?_, ?_⟩
        · intro mm zz hmm hzz
          rw [List.getElem?_map] at hzz
          cases hq : ks2[mm]? with
          | none => rw [hq] at hzz; cases hzz
          | some qq =>
            rw [hq] at hzz
            cases hzz
            rw [eqv_dK]
            exact decide_eq_false (j3 mm qq hmm hq)
        · unfold goalsV
          rw [List.length_map, hgl]
          exact Nat.lt_of_le_of_lt (show i ≤ 100000 by omega) (by decide)
        · refine ⟨_, _, ks2, vk2, gs ++ [j], rfl, e7.mut hlg0, by rw [upd_ne nlk]; exact hk6, by rw [upd_ne nlr]; exact hr6, ?_, Keys.tt (tt_mut hg6) hK6, Rows.tt (tt_mut hg6) hR6, hnd6, hkb6, by omega, by rw [List.length_append, hgl]; rfl, ?_⟩
          · rw [upd_same]
            unfold goalsV
            rw [List.map_append]
            rfl
          · intro g hg
            rcases List.mem_append.mp hg with hg | hg
            · exact Nat.lt_of_lt_of_le (hgb g hg) hle6
            · rw [List.mem_singleton.mp hg]
              exact j2
      · refine ⟨_, rfl, _, rfl, dK (ga, gb), ks'.map dK, hkat.dp, .lst (SqL.of hkd) hKd.dpa, shaped_dK _, shaped_keys _, _, rfl, ?_⟩
        rw [any_dK]
        by_cases hin : (ga, gb) ∈ ks'
        · rw [decide_eq_true hin]
          exact iteF (join _ _ ⟨ks', vk', rfl, ed, hkd, hrd, hgd, hKd, hRd, hndc, hkbc, Nat.le_refl _, hin, hkat⟩)
        · rw [decide_eq_false hin]
          refine iteT ⟨_, rfl, .inl ⟨rfl, _, SqL.of hkd⟩, _, rfl, lk, _, _, rfl, rfl, hkd, ?_, join _ _ ⟨ks' ++ [(ga, gb)], _, rfl, ed.mut hlk0, upd_same, by rw [upd_ne (fun e => nrk e.symm)]; exact hrd, by rw [upd_ne (fun e => nlk e.symm)]; exact hgd, Keys.tt (tt_mut hkd) (Keys.app hkat hKd), Rows.tt (tt_mut hkd) hRd, ?_, ?_, by rw [List.length_append]; omega, by simp, hkat.tt (tt_mut hkd)⟩⟩
          · rw [hKd.len]
            exact Nat.lt_of_le_of_lt (show ks'.length ≤ 100000 by omega) (by decide)
          · exact List.nodup_append.mpr ⟨hndc, by simp, fun a ha b hb e => by rw [List.mem_singleton.mp hb] at e; exact hin (e ▸ ha)⟩
          · intro q hq
            rcases List.mem_append.mp hq with hq | hq
            · exact hkbc q hq
            · rw [List.mem_singleton.mp hq]
              exact ⟨hgan, hgbn⟩
    · rintro σ H5 ⟨o9, o10, ks', vk', gs, rfl, ec, hkc, hrc, hgc, hKc, hRc, hndc, hkbc, hlec, hgl, hgb⟩
      refine ⟨_, rfl, .inl ⟨rfl, _, SqL.of hrc⟩, _, rfl, _, rfl, a2, _, _, _, rfl, rfl, Same.tup ec n1, at_of (j := 1) rfl rfl, _, rfl, l2, _, _, .ref b2, rfl, rfl, ec.seq n2, at_of (j := q0.2) rfl hc1, b2, _, _, _, rfl, rfl, Same.tup ec hc2, at_of (j := 0) rfl rfl,
        _, _, rfl, rfl, .inl ⟨_, rfl, _, rfl, _, _, rfl, rfl, by show (0 : Int) < m.p; omega, _, rfl, lg, _, rfl, .inl ⟨SqL.of hgc, fun t1 ht1 => ⟨by show 2 ≤ sizeLine; decide, fun t2 ht2 => ?_⟩⟩⟩⟩
      have e6 : Same H5 (upd H5 t1 (.tup (goalsV gs))) := (Same.refl H5).new ht1
      have e7 := e6.new (o := .tup [.int ((ra.1 + rb.1) % m.p), .ref t1]) ht2
      have hr7 := e7 _ _ hrc
      have hk7 := e7 _ _ hkc
      have hgl' : gs.length = m.p := by rw [hgl]; omega
      refine ⟨lr, vr, _, rfl, rfl, hr7, ?_, ?_⟩
      · rw [hR.len]
        exact Nat.lt_of_le_of_lt (show rs.length ≤ 100000 by omega) (by decide)
      · refine ⟨m.rows.length * n.rows.length - (rs.length + 1), by omega, _, _, _, _, _, _, ks', rs ++ [((ra.1 + rb.1) % m.p, gs)], vk', _, by rw [List.length_append]; rfl, rfl, (ec.trans e7).mut hlr0, by rw [upd_ne nrk]; exact hk7, upd_same, Keys.tt (e7.tt.trans (tt_mut hr7)) hKc, ?_, hndc, hkbc, ?_, by rw [List.length_append]; show rs.length + 1 ≤ _; omega, by omega⟩
        · refine Rows.tt (tt_mut hr7) (Rows.app (r := ((ra.1 + rb.1) % (m.p : Int), gs)) ⟨t2, t1, rfl, upd_same, ?_⟩ (Rows.tt e7.tt hRc))
          rw [upd_ne (ne_of_none upd_same ht2), upd_same]
        · intro r' hr'
          rcases List.mem_append.mp hr' with hr' | hr'
          · exact (hok r' hr').mono hlec
          · rw [List.mem_singleton] at hr'
            subst hr'
            exact ⟨Int.emod_nonneg _ (by omega), Int.emod_lt_of_pos _ (by omega), hgl', hgb⟩
  · refine ifF (decide_eq_false (by omega)) ⟨_, rfl, _, rfl, by show 3 ≤ sizeLine; decide, fun t ht => ?_⟩
    have e5 : Same H4 (upd H4 t (.tup [.int m.p, .ref lr, .int 0])) := (Same.refl H4).new ht
    have hrl : ks.length = rs.length := by omega
    refine q _ t ⟨m.p, rs, 0⟩ (e4.trans e5) ⟨mk_mach (m := ⟨m.p, rs, 0⟩) upd_same (e5 _ _ hr4) (Rows.tt e5.tt hR), wf_of hm.wf.prime (by show 0 < rs.length; omega) (by show rs.length ≤ 64; omega) (fun r hr' => ?_) (by show 0 < rs.length; omega)⟩ rfl (by show rs.length ≤ _; omega)
    show RowOk m.p rs.length r
    rw [← hrl]
    exact hok r hr'
end
end L2.K55
namespace L2.K55
open PySem PySem.Spec PyProof.Rows
theorem lc_pick {n i8 : Nat} {tt : L2.TT} {vs : List Nat} {σ : St} {H1 : Hp} {D : Addr} {Qd : Hp → Prop} (hw : ∀ v, wipe ((wipe σ vs).set i8 (some v)) vs = wipe σ vs) (hl : ∀ v, ((wipe σ vs).set i8 (some v))[i8]? = some (some v)) (hn : n ≤ 100000)
    (I : Hp → Prop) (P : Nat → Bool → Prop) (h0 : I (upd H1 D (.lst []))) (hup : ∀ H acc acc', I H → H D = some (.lst acc) → I (upd H D (.lst acc')))
    (test : ∀ i H acc, i < n → I H → H D = some (.lst acc) → ∀ Q2 : Bool → Hp → Prop, (∀ bl H', I H' → H' D = some (.lst acc) → P i bl → Q2 bl H') → tt ((wipe σ vs).set i8 (some (.int (0 + (i : Nat))))) H Q2)
    (hd : ∀ H (js : List Nat), I H → H D = some (.lst (js.map fun (j : Nat) => V.int (j : Int))) → (∀ j ∈ js, j < n ∧ P j true) → (∀ j, j < n → j ∉ js → P j false) → js.length ≤ n → Qd H) :
    ∃ W : Nat → Nat → Hp → Prop, (∃ m, W 0 m (upd H1 D (.lst []))) ∧ ∀ i m H, W i m H →
      ((Itr 0 n).stop i H ∧ Qd H) ∨ ((Itr 0 n).go i H ∧ ∃ Nx : Hp → Prop, (∀ H', Nx H' → ∃ m', m' < m ∧ W (i + 1) m' H') ∧ ∀ x H', (Itr 0 n).yld i H x H' → gName i8 x (wipe σ vs) H' fun σ2 H2 => wipe σ2 vs = wipe σ vs ∧ tt σ2 H2 fun b H3 =>
        if b = true then tVar i8 σ2 H3 fun y H4 => ∃ acc, H4 D = some (.lst acc) ∧ acc.length < sizeLine ∧ Nx (upd H4 D (.lst (acc ++ [y]))) else Nx H3) := by
  refine lc_it (walk_range (lo := 0) (n := n)) (fun i H => I H ∧ ∃ js : List Nat, H D = some (.lst (js.map fun (j : Nat) => V.int (j : Int))) ∧ (∀ j ∈ js, j < i ∧ P j true) ∧ (∀ j, j < i → j ∉ js → P j false) ∧ js.length ≤ i) ?_ (fun _ _ _ _ => trivial) ?_ ?_
  · exact ⟨h0, [], upd_same, fun _ h => (by cases h), fun j hj => absurd hj (Nat.not_lt_zero j), Nat.le_refl _⟩
  · rintro i x H H' hi ⟨hI, js, hD, h1, h2, h3⟩ ⟨rfl, rfl⟩
    refine ⟨hw _, test i _ _ hi hI hD _ fun bl H3 hI3 hD3 hP => ?_⟩
    cases bl with
    | true =>
      refine ⟨_, hl _, _, hD3, ?_, hup _ _ _ hI3 hD3, js ++ [i], ?_, ?_, ?_, by rw [List.length_append]; exact Nat.succ_le_succ h3⟩
      · rw [List.length_map]
        exact Nat.lt_of_le_of_lt (show js.length ≤ 100000 by omega) (by decide)
      · rw [upd_same, List.map_append]
        simp
      · intro j hj
        rcases List.mem_append.mp hj with hj | hj
        · exact ⟨Nat.lt_succ_of_lt (h1 j hj).1, (h1 j hj).2⟩
        · rw [List.mem_singleton.mp hj]
          exact ⟨Nat.lt_succ_self i, hP⟩
      · intro j hj hnj
        rcases Nat.lt_or_ge j i with h | h
        · exact h2 j h fun hm => hnj (List.mem_append_left _ hm)
        · have : j = i := by omega
          subst this
          exact absurd (List.mem_append_right _ (List.mem_singleton.mpr rfl)) hnj
    | false =>
      refine ⟨hI3, js, hD3, fun j hj => ⟨Nat.lt_succ_of_lt (h1 j hj).1, (h1 j hj).2⟩, fun j hj hnj => ?_, Nat.le_succ_of_le h3⟩
      rcases Nat.lt_or_ge j i with h | h
      · exact h2 j h hnj
      · have : j = i := by omega
        subst this
        exact hP
  · rintro H ⟨hI, js, hD, h1, h2, h3⟩
    exact hd H js hI hD h1 h2 h3
section
variable {P : Program} {w : World} {K : PySem.W.Frag} {mg : Str → Option Value} {base : Heap} {C : Addr}
def spSingle (K : PySem.W.Frag) : Sp := fun vs H Q _ => ∃ (b c : Addr) (p : Nat), vs = [.ref b, .int p] ∧ BagC H b c ∧ isPrm p ∧ ∀ H' t (m : Mc), SB b H H' → BagC H' b c → MOk K H' (.ref t) m → m.p = p → m.rows.length ≤ 8 → Q (.ref t) H'
theorem k_single (R : Raw K mg "_law_single" s_law_single) (F1 : Known P w K mg base "_law_pull" 1 ["_law_bag_here", "_law_many"] spPull) (F2 : Known P w K mg base "_law_odometer" 1 ["_law_p"] (spOdo K))
    (F3 : Known P w K mg base "_law_plain" 3 ["_law_bag_here", "_law_p", "_law_top"] (spPlain K)) (F4 : Known P w K mg base "_law_joined" 1 ["_law_m", "_law_n"] (spJoined K)) (F5 : Known P w K mg base "_law_undone" 1 ["_law_m"] (spUndone K)) :
    Known P w K mg base "_law_single" 4 ["_law_bag_here", "_law_p"] (spSingle K) := by
  refine known R sc_law_single (fun _ _ _ _ _ _ us hl => match us, hl with | [_, _], _ => rfl) (fun vs H Q E h => by obtain ⟨_, _, _, rfl, _⟩ := h; rfl) (fun f cdv A outer s H vs Q E hr h => ?_)
  obtain ⟨b, c, p, rfl, hB, hp, q⟩ := h
  have nd := sc_law_single.nd
  refine ⟨_, pss_cons (ps_set (i := 2) nd rfl (Or.inl rfl) (pk (F2.mono (by decide : 1 ≤ 3)) hr (by rfl) (pa_cons (pv 1) pa_nil)))
    (pss_cons (ps_if (pt_cmpR op_gt (pk (F1.mono (by decide : 1 ≤ 3)) hr (by rfl) (pa_cons (pv 0) (pa_cons pe_int pa_nil))) pe_int (nomark _))
      (pss_cons (ps_set (i := 3) nd rfl (Or.inl rfl) (pk F3 hr (by rfl) (pa_cons (pv 0) (pa_cons (pv 1) (pa_cons pe_int pa_nil)))))
      (pss_one (ps_set (i := 2) nd rfl (Or.inl rfl) (pk (F4.mono (by decide : 1 ≤ 3)) hr (by rfl) (pa_cons (pk (F4.mono (by decide : 1 ≤ 3)) hr (by rfl) (pa_cons (pk (F5.mono (by decide : 1 ≤ 3)) hr (by rfl) (pa_cons (pv 3) pa_nil)) (pa_cons (pv 2) pa_nil))) (pa_cons (pv 3) pa_nil)))))) pss_nil)
    (pss_one (ps_ret (pv 2)))), ?_⟩
  refine ⟨_, rfl, p, rfl, hp, fun H1 t e1 hm => ?_⟩
  have hB1 := hB.same e1
  refine ⟨_, rfl, b, c, 4, rfl, hB1, by decide, by decide, fun H2 k e2 hB2 hk => ⟨_, _, rfl, rfl, _, rfl, ?_⟩⟩
  have hm2 := hm.bag hB1 e2
  by_cases hk0 : (0 : Int) < k
  · refine ifT (decide_eq_true hk0) ⟨_, rfl, _, rfl, b, c, p, 2, rfl, hB2, hp, by decide, by decide, fun H3 g mg' e3 hB3 hg hgp hgl => ?_⟩
    have hm3 := hm2.bag hB2 e3
    have ho2 : (odo p).rows.length = 2 := rfl
    refine ⟨_, rfl, _, mg', rfl, hg, fun H4 u nu e4 hu hup hul => ⟨_, rfl, _, _, nu, odo p, rfl, hu, hm3.same e4, hup.trans hgp, ?_, fun H5 x nx e5 hx hxp hxl => ⟨_, rfl, _, _, nx, mg', rfl, hx, hg.same (e4.trans e5), hxp.trans hup, ?_, fun H6 y ny e6 hy hyp hyl => ⟨_, rfl, ?_⟩⟩⟩⟩
    · rw [ho2]
      omega
    · rw [ho2] at hxl
      have : nx.rows.length ≤ 4 := by omega
      exact Nat.le_trans (Nat.mul_le_mul this hgl) (by decide)
    · rw [ho2] at hxl
      have : nx.rows.length ≤ 4 := by omega
      exact q H6 y ny ((e1.sb b).trans (e2.trans (e3.trans ((e4.trans (e5.trans e6)).sb b)))) (hB3.same (e4.trans (e5.trans e6))) hy (by rw [hyp, hxp, hup, hgp]) (Nat.le_trans hyl (Nat.le_trans (Nat.mul_le_mul this hgl) (by decide)))
  · exact ifF (decide_eq_false hk0) ⟨_, rfl, q H2 t (odo p) ((e1.sb b).trans e2) hB2 hm2 rfl (by decide : 2 ≤ 8)⟩
abbrev scGoal : Scope := { kind := .function, names := [(".0", .local), ("_law_goal", .cell), ("_law_of", .globalImplicit), ("range", .globalImplicit), ("len", .globalImplicit), ("_law_bag_here", .cell), ("_law_owners", .cell)], isGenerator := false, isCoroutine := false }
def spDoubled (K : PySem.W.Frag) : Sp := fun vs H Q _ => ∃ (b c : Addr) (v : V) (m : Mc), vs = [.ref b, v] ∧ BagC H b c ∧ MOk K H v m ∧ m.rows.length ≤ 8 ∧ ∀ H' t (n : Mc), SB b H H' → BagC H' b c → MOk K H' (.ref t) n → n.p = m.p → Q (.ref t) H'
theorem k_doubled (R : Raw K mg "_law_doubled" s_law_doubled) (B : Bl mg) (F1 : Known P w K mg base "_law_pull" 1 ["_law_bag_here", "_law_many"] spPull) (F2 : Known P w K mg base "_law_of" 2 ["_law_bag_here", "_law_some"] spOf)
    (F3 : Known P w K mg base "_law_mixed" 2 ["_law_bag_here", "_law_some"] spMixed) :
    Known P w K mg base "_law_doubled" 3 ["_law_bag_here", "_law_m"] (spDoubled K) := by
  refine known R sc_law_doubled (fun _ _ _ _ _ _ us hl => match us, hl with | [_, _], _ => rfl) (fun vs H Q E h => by obtain ⟨_, _, _, _, rfl, _⟩ := h; rfl) (fun f cdv A outer s H vs Q E hr h => ?_)
  obtain ⟨b, c, v, m, rfl, hB, hm, hsz, q⟩ := h
  have nd := sc_law_doubled.nd
  refine ⟨_, pss_cons (ps_set (i := 2) nd rfl (Or.inl rfl) (pe_callB call_len_seq (by rfl) B.len PySem.boot_len (pa_cons (pe_ix ix_tup (pv 1) pe_int (fun _ _ => rfl)) pa_nil)))
    (pss_cons (ps_set (i := 3) nd rfl (Or.inr rfl) (pk F3 hr (by rfl) (pa_cons (pv 0) (pa_cons (pe_op op_cat (pe_listRg (by rfl) (by rfl) B.list (prg_1 (by rfl) B.range (pv 2)))
        (pe_lc (own := [("_law_k", 8)]) (g := gName 8) rfl nd (pi_range1 (by rfl) B.range (pa_cons (pv 2) pa_nil)) (blkOk_by (N := N_law_doubled) (sc := defScope s_law_doubled) (by decide +kernel)) (fun _ _ _ _ _ => pg_name (i := 8) nd rfl (Or.inl rfl))
          (fun _ _ _ _ _ => pts_one (pt_cmpR op_eq (pk (F1.mono (by decide : 1 ≤ 2)) hr (by rfl) (pa_cons (pv 0) (pa_cons pe_int pa_nil))) pe_int (nomark _)))
          (fun _ _ _ _ _ => pv 8))) pa_nil))))
    (pss_cons (ps_set (i := 4) nd rfl (Or.inl rfl) (pe_lst pa_nil))
    (pss_cons (ps_for PassesOwn.never rfl (pi_list (pv 3)) (pg_name (i := 5) nd rfl (Or.inl rfl))
      (pss_cons (ps_asg (pe_ix ix_list (pe_ix ix_tup (pv 1) pe_int (fun _ _ => rfl)) (pv 5) (fun _ _ => rfl)) (pg_tup rfl (pgs_cons (pg_name (i := 6) nd rfl (.inl rfl)) (pgs_cons (pg_name (i := 7) nd rfl (.inl rfl)) pgs_nil))))
      (pss_one (ps_expr (pe_bm PySem.F.plainAttrs_list PySem.F.slot_list_append PySem.F.type_list_append mt_append (pv 4) (pa_cons (pe_tup (pa_cons (pv 6) (pa_cons
        (pe_callTy call_tuple_of (by rfl) B.tuple (by decide +kernel) (pa_cons (pe_lc (own := [("_law_goal", 9)]) (g := gName 9) (tt := tYes) rfl nd (pi_tup (pv 7)) (blkOk_by (N := N_law_doubled) (sc := defScope s_law_doubled) (by decide +kernel)) (fun _ _ _ _ _ => pg_name (i := 9) nd rfl (Or.inr rfl)) (fun _ _ _ _ _ => pts_nil)
          (fun _ _ _ _ _ => pk F2 hr (by rfl) (pa_cons (pv 0) (pa_cons
            (pe_lc (own := [("_law_k", 8)]) (g := gName 8) rfl nd (pi_range1 (by rfl) B.range (pa_cons (pe_callB (cLen (K := K)) (by rfl) B.len PySem.boot_len (pa_cons (pv 3) pa_nil)) pa_nil)) (blkOk_by (N := N_law_doubled) (sc := scGoal) (by decide +kernel)) (fun _ _ _ _ _ => pg_name (i := 8) nd rfl (Or.inl rfl))
              (fun _ _ _ _ _ => pts_one (pt_cmpR op_eq (pe_ix (ixL (K := K)) (pv 3) (pv 8) (fun _ _ => rfl)) (pv 9) (nomark _)))
              (fun _ _ _ _ _ => pv 8)) pa_nil)))) pa_nil)) pa_nil))) pa_nil))))))
    (pss_one (ps_ret (pe_tup (pa_cons (pe_ix ix_tup (pv 1) pe_int (fun _ _ => rfl)) (pa_cons (pv 4) (pa_cons (pk F2 hr (by rfl) (pa_cons (pv 0) (pa_cons
            (pe_lc (own := [("_law_k", 8)]) (g := gName 8) rfl nd (pi_range1 (by rfl) B.range (pa_cons (pe_callB call_len_seq (by rfl) B.len PySem.boot_len (pa_cons (pv 3) pa_nil)) pa_nil)) (blkOk_by (N := N_law_doubled) (sc := defScope s_law_doubled) (by decide +kernel)) (fun _ _ _ _ _ => pg_name (i := 8) nd rfl (Or.inl rfl))
              (fun _ _ _ _ _ => pts_one (pt_cmpR op_eq (pe_ix (ixL (K := K)) (pv 3) (pv 8) (fun _ _ => rfl)) (pe_ix (ixT (K := K)) (pv 1) pe_int (fun _ _ => rfl)) (nomark _)))
              (fun _ _ _ _ _ => pv 8)) pa_nil))) pa_nil))))))))), ?_⟩
  obtain ⟨a, l, xs, rfl, m1, m2, m3⟩ := dM_un hm.d
  have hxl := rows_len m3
  have hpos := hm.wf.pos
  have hp7 : 2 ≤ m.p ∧ m.p ≤ 7 := by rcases hm.wf.prime with e | e | e | e <;> omega
  refine ⟨_, rfl, a, _, _, _, rfl, rfl, m1, at_of (j := 1) rfl rfl, l, _, rfl, .inl m2, ?_⟩
  dsimp only
  rw [hxl]
  refine ⟨_, rfl, _, rfl, _, rfl, ⟨by omega, by omega, by omega, by omega, by omega⟩, fun l1 hl1 => ?_⟩
  have e1 : Same H (upd H l1 (.lst (rgV 0 m.rows.length))) := (Same.refl H).new hl1
  have hB1 := hB.same e1
  have hl1' : (upd H l1 (.lst (rgV 0 m.rows.length))) l1 = some (.lst (rgV 0 m.rows.length)) := upd_same
  generalize upd H l1 (.lst (rgV 0 m.rows.length)) = H1 at *
  refine ⟨_, rfl, _, rfl, by omega, by omega, fun D1 hD1 => lc_pick (fun _ => rfl) (fun _ => rfl) (by simp; omega) (fun H' => SB b H1 H' ∧ BagC H' b c) (fun _ _ => True)
    ⟨(SB.refl b H1).new hD1, hB1.same ((Same.refl _).new hD1)⟩ (fun H' acc acc' ⟨e, hb⟩ hD => ⟨fun u o nu hu => by rw [upd_ne (ne_of_none hu hD1)]; exact e u o nu hu, hb.mut (hB1.ne hD1)⟩) (fun i H' acc hi ⟨e, hb⟩ hD Q2 hq => ?_) fun H2 js ⟨e2, hB2⟩ hD2 hj1 hj2 hj3 => ?_⟩
  · refine ⟨_, rfl, b, c, 2, rfl, hb, by decide, by decide, fun H3 k e3 hB3 hk => ⟨rfl, _, rfl, ?_⟩⟩
    exact hq _ _ ⟨e.trans e3, hB3⟩ (e3.ne (hB1.ne hD1).1 hD) trivial
  have nl1 : l1 ≠ b := (hB.ne hl1).1
  have hl12 := e2.ne nl1 hl1'
  refine ⟨l1, D1, _, _, rfl, rfl, hl12, hD2, ?_, fun l3 hl3 => ?_⟩
  · rw [rgV_length, List.length_map]
    have : js.length ≤ 1000 := Nat.le_trans hj3 (by omega)
    exact Nat.le_trans (show ((m.rows.length : Int) - 0).toNat + js.length ≤ 100000 by omega) (by decide)
  have hns : rgV 0 m.rows.length ++ (js.map fun (j : Nat) => V.int (j : Int)) = ((List.range m.rows.length ++ js).map fun (j : Nat) => (j : Int)).map V.int := by
    rw [List.map_append, List.map_append, List.map_map, List.map_map]
    congr 1
    unfold rgV
    have : ((m.rows.length : Int) - 0).toNat = m.rows.length := by omega
    rw [this]
    exact List.map_congr_left fun i _ => by simp
  rw [hns]
  have e3 : Same H2 (upd H2 l3 (.lst (((List.range m.rows.length ++ js).map fun (j : Nat) => (j : Int)).map V.int))) := (Same.refl H2).new hl3
  have hjl : js.length ≤ m.rows.length := by
    have := hj3
    omega
  have hol : (((List.range m.rows.length ++ js).map fun (j : Nat) => (j : Int))).length = m.rows.length + js.length := by rw [List.length_map, List.length_append, List.length_range]
  refine ⟨b, c, l3, _, rfl, hB2.same e3, upd_same, (hB2.ne hl3).1, by rw [hol]; omega, fun H4 lo os e4 hB4 hlo0 hlo4 hperm => ?_⟩
  have hosl : os.length = m.rows.length + js.length := by rw [hperm.length_eq, hol]
  have hos1 : ∀ o ∈ os, ∃ j : Nat, o = j ∧ j < m.rows.length := fun o ho => by
    obtain ⟨j, hj, rfl⟩ := List.mem_map.mp (hperm.mem_iff.mp ho)
    refine ⟨j, rfl, ?_⟩
    rcases List.mem_append.mp hj with hj | hj
    · exact List.mem_range.mp hj
    · have := (hj1 j hj).1
      omega
  have hos2 : ∀ j, j < m.rows.length → (j : Int) ∈ os := fun j hj => hperm.mem_iff.mpr (List.mem_map.mpr ⟨j, List.mem_append_left _ (List.mem_range.mpr hj), rfl⟩)
  have e04 : SB b H H4 := (e1.sb b).trans (e2.trans ((e3.sb b).trans e4))
  have nlo : lo ≠ b := fun e => by
    obtain ⟨cells, i, big, mix, dr, g1, _⟩ := hB2.same e3
    rw [e, g1] at hlo0
    cases hlo0
  clear hl12 hD2 hns hperm hj1 hj2 hj3 hol e3 e4 hB2
  refine ⟨by show 0 ≤ sizeLine; decide, fun lr hlr => ?_⟩
  have e5 : Same H4 (upd H4 lr (.lst [])) := (Same.refl H4).new hlr
  have nlr := hB4.ne hlr
  have hlr0 : H lr = none := SB.free e04 hB4 hlr
  have nrl : lo ≠ lr := ne_of_none hlo4 hlr
  have pick : ∀ {H5 : Hp} (g : Nat), g < m.rows.length → H5 lo = some (.lst (os.map V.int)) → ∀ {D : Addr} {H6 : Hp} {js : List Nat}, (∀ j ∈ js, j < os.length ∧ os[j]? = some (g : Int)) → (∀ j, j < os.length → j ∉ js → ¬ os[j]? = some (g : Int)) → js ≠ [] := by
    intro H5 g hg _ D H6 js h1 h2 hnil
    obtain ⟨k, hk⟩ := List.getElem?_of_mem (hos2 g hg)
    have hkl : k < os.length := (List.getElem?_eq_some_iff.mp hk).1
    exact h2 k hkl (by rw [hnil]; exact fun h => (by cases h)) hk
  refine ⟨_, rfl, lo, rfl, ⟨_, SqL.of (e5 _ _ hlo4)⟩, for_it (walk_list (xs := os.map V.int)) (fun i σ H' => ∃ (o5 o6 o7 : Option V) (rs : List (Int × List Nat)) (vs : List V), σ = [some (.ref b), some (.ref a), some (.int m.rows.length), some (.ref lo), some (.ref lr), o5, o6, o7, none, none] ∧
      SB b H4 H' ∧ BagC H' b c ∧ H' lr = some (.lst vs) ∧ Rows H' vs rs ∧ rs.length = i ∧ ∀ r ∈ rs, RowOk m.p os.length r)
    ⟨_, _, _, [], [], rfl, e5.sb b, hB4.same e5, upd_same, .nil, rfl, fun _ h => (by cases h)⟩ ?_ ?_ ?_⟩
  · rintro i σ H' _ ⟨o5, o6, o7, rs, vs, rfl, e, _⟩
    exact SqL.of (e.ne nlo hlo4)
  · rintro i y σ Hx H5 hi ⟨o5, o6, o7, rs, vs, rfl, e, hB5, hl5, hR, hrl, hok⟩ ⟨rfl, hy⟩
    obtain ⟨o, ho, rfl⟩ := ns_get hy
    obtain ⟨j, rfl, hj⟩ := hos1 o (List.mem_of_getElem? ho)
    obtain ⟨r, hr0⟩ : ∃ r, m.rows[j]? = some r := ⟨_, List.getElem?_eq_getElem hj⟩
    have hrm := List.mem_of_getElem? hr0
    have e05 := e04.trans e
    obtain ⟨a', l', xs', ea, m1', m2', m3'⟩ := dM_un (hm.bag hB e05).d
    cases ea
    obtain ⟨bb, g, hb1, hb2, hb3⟩ := rows_at m3' hr0
    obtain ⟨t0, t1⟩ := hm.wf.turn r hrm
    have hgl : (goalsV r.2).length = m.p := by unfold goalsV; rw [List.length_map]; exact hm.wf.len r hrm
    refine ⟨_, rfl, a, _, _, _, rfl, rfl, m1', at_of (j := 1) rfl rfl, _, rfl, l', _, _, .ref bb, rfl, rfl, m2', at_of (j := j) rfl hb1, bb, _, rfl, hb2, rfl, _, _, rfl, _, _, rfl, rfl, ?_⟩
    refine ⟨_, rfl, .inl ⟨rfl, _, SqL.of hl5⟩, _, rfl, _, rfl, g, rfl, ⟨_, hb3⟩, fun D hD => lc_bag (walk_tup (xs := goalsV r.2)) hB5 hD (by rw [hgl]; omega) (fun i v => ∃ k : Nat, v = .int k ∧ k < os.length) (fun H6 e6 hB6 => bag_tup hB5.at' hb3 e6) (fun i2 y2 H6 H7 acc hi2 e6 hB6 hacc hy2 Q' hq => ?_) fun H6 acc e6 hB6 hacc hal hR6 => ?_⟩
    · obtain ⟨rfl, hy2⟩ := hy2
      obtain ⟨gg, hgg, rfl⟩ := ns_get hy2
      have hgm : gg < m.rows.length := hm.wf.goal r hrm gg (List.mem_of_getElem? hgg)
      have hlo6 := e6.ne nlo (e.ne nlo hlo4)
      refine ⟨rfl, _, rfl, _, rfl, lo, _, rfl, .inl (SqL.of hlo6), _, rfl, by omega, by rw [List.length_map]; omega, fun D2 hD2 => lc_pick (fun _ => rfl) (fun _ => rfl) (by simp; omega) (fun H' => Same _ H') (fun k bl => bl = decide (os[k]? = some (gg : Int)))
        ((Same.refl _).new hD2) (fun H' acc acc' e hD => e.mut hD2) (fun k H' acc hk e8 hD8 Q2 hq2 => ?_) fun H8 js e8 hD8 hj1 hj2 hj3 => ?_⟩
      · have hk' : k < os.length := by
          have := hk
          simp at this
          omega
        obtain ⟨ok, hok'⟩ : ∃ ok, os[k]? = some ok := ⟨_, List.getElem?_eq_getElem hk'⟩
        refine ⟨_, rfl, _, rfl, lo, _, _, .int ok, rfl, rfl, SqL.of (e8 _ _ hlo6), at_of (j := k) (by omega) (by rw [List.getElem?_map, hok']; rfl), _, rfl, rfl, _, rfl, ?_⟩
        refine hq2 _ _ e8 hD8 ?_
        rw [hok']
        exact decide_eq_decide.mpr ⟨fun e => by injection e with e; rw [e], fun e => by injection e with e; rw [e]⟩
      · have hlen : ((os.map V.int).length : Int).toNat = os.length := by rw [List.length_map, Int.toNat_natCast]
        have hjn : js ≠ [] := pick gg hgm hlo6 (D := D2) (H6 := H8) (fun j hj => ⟨by have := (hj1 j hj).1; simp at this; exact this, of_decide_eq_true (hj1 j hj).2.symm⟩) fun j hj hnj => of_decide_eq_false (hj2 j (by simp; exact hj) hnj).symm
        refine ⟨b, c, D2, _, rfl, hB6.same e8, hD8, (hB6.ne hD2).1, fun h => hjn (List.map_eq_nil_iff.mp h), by rw [List.length_map]; have := hj3; simp at this; omega, fun H9 v9 e9 hB9 hv9 => ?_⟩
        obtain ⟨jj, hjj, rfl⟩ := List.mem_map.mp hv9
        exact hq _ _ ((e8.sb b).trans e9) hB9 ⟨jj, rfl, by have := (hj1 jj hjj).1; simp at this; exact this⟩
    · obtain ⟨gs, rfl, hgs⟩ := natsOf fun v hv => by
        obtain ⟨i, hi⟩ := List.getElem?_of_mem hv
        exact hR6 i v hi
      have hgsl : gs.length = m.p := by
        have : (goalsV gs).length = gs.length := by unfold goalsV; rw [List.length_map]
        omega
      refine ⟨D, _, rfl, .inl ⟨SqL.of hacc, fun t1' ht1' => ⟨by show 2 ≤ sizeLine; decide, fun t2 ht2 => ?_⟩⟩⟩
      have e7 : Same H6 (upd H6 t1' (.tup (goalsV gs))) := (Same.refl H6).new ht1'
      have e8 := e7.new (o := .tup [.int r.1, .ref t1']) ht2
      have hl6 := e6.ne nlr.1 hl5
      have hl8 := e8 _ _ hl6
      refine ⟨lr, vs, _, rfl, rfl, hl8, ?_, ?_⟩
      · rw [hR.len, hrl]
        exact Nat.lt_of_le_of_lt (show i ≤ 100000 by rw [List.length_map] at hi; omega) (by decide)
      · refine ⟨_, _, _, rs ++ [(r.1, gs)], _, rfl, ?_, (hB6.same e8).mut nlr, upd_same, ?_, by rw [List.length_append, hrl]; rfl, ?_⟩
        · intro u o nu hu
          rw [upd_ne (ne_of_none hu hlr)]
          exact e8 _ _ (e6 _ _ nu (e _ _ nu hu))
        · refine Rows.tt (tt_mut hl8) (Rows.app (r := (r.1, gs)) ⟨t2, t1', rfl, upd_same, ?_⟩ (Rows.tt ((SB.tt e6 hB5).trans e8.tt) hR))
          rw [upd_ne (ne_of_none upd_same ht2), upd_same]
        · intro r' hr'
          rcases List.mem_append.mp hr' with hr' | hr'
          · exact hok r' hr'
          · rw [List.mem_singleton] at hr'
            subst hr'
            exact ⟨t0, t1, hgsl, hgs⟩
  · rintro σ H5 ⟨o5, o6, o7, rs, vs, rfl, e, hB5, hl5, hR, hrl, hok⟩
    rw [List.length_map] at hrl
    have e05 := e04.trans e
    obtain ⟨a', l', xs', ea, m1', m2', m3'⟩ := dM_un (hm.bag hB e05).d
    cases ea
    have hlo5 := e.ne nlo hlo4
    refine ⟨_, rfl, a, _, _, _, rfl, rfl, m1', at_of (j := 0) rfl rfl, _, rfl, _, rfl, _, rfl, lo, _, rfl, .inl (SqL.of hlo5), _, rfl, by omega, by rw [List.length_map]; omega, fun D2 hD2 => lc_pick (fun _ => rfl) (fun _ => rfl) (by simp; omega) (fun H' => Same H5 H') (fun k bl => bl = decide (os[k]? = some (m.start : Int)))
        ((Same.refl _).new hD2) (fun H' acc acc' e hD => e.mut hD2) (fun k H' acc hk e8 hD8 Q2 hq2 => ?_) fun H8 js e8 hD8 hj1 hj2 hj3 => ?_⟩
    · have hk' : k < os.length := by
        have := hk
        simp at this
        omega
      obtain ⟨ok, hok'⟩ : ∃ ok, os[k]? = some ok := ⟨_, List.getElem?_eq_getElem hk'⟩
      refine ⟨_, rfl, _, rfl, lo, _, _, .int ok, rfl, rfl, SqL.of (e8 _ _ hlo5), at_of (j := k) (by omega) (by rw [List.getElem?_map, hok']; rfl), _, rfl, a, _, _, _, rfl, rfl, Same.tup e8 m1', at_of (j := 2) rfl rfl, rfl, _, rfl, ?_⟩
      refine hq2 _ _ e8 hD8 ?_
      rw [hok']
      exact decide_eq_decide.mpr ⟨fun e => by injection e with e; rw [e], fun e => by injection e with e; rw [e]⟩
    · have hjn : js ≠ [] := pick m.start hm.wf.start hlo5 (D := D2) (H6 := H8) (fun j hj => ⟨by have := (hj1 j hj).1; simp at this; exact this, of_decide_eq_true (hj1 j hj).2.symm⟩) fun j hj hnj => of_decide_eq_false (hj2 j (by simp; exact hj) hnj).symm
      refine ⟨b, c, D2, _, rfl, hB5.same e8, hD8, (hB5.ne hD2).1, fun h => hjn (List.map_eq_nil_iff.mp h), by rw [List.length_map]; have := hj3; simp at this; omega, fun H9 v9 e9 hB9 hv9 => ?_⟩
      obtain ⟨jj, hjj, rfl⟩ := List.mem_map.mp hv9
      have hjj' : jj < os.length := by have := (hj1 jj hjj).1; simp at this; exact this
      refine ⟨by show 3 ≤ sizeLine; decide, fun t ht => ?_⟩
      have ea : Same H9 (upd H9 t (.tup [.int m.p, .ref lr, .int jj])) := (Same.refl H9).new ht
      have hl9 := ea _ _ (e9.ne nlr.1 (e8 _ _ hl5))
      refine q _ t ⟨m.p, rs, jj⟩ (e05.trans ((e8.sb b).trans (e9.trans (ea.sb b)))) (hB9.same ea) ⟨mk_mach (m := ⟨m.p, rs, jj⟩) upd_same hl9 (Rows.tt ((e8.tt.trans (SB.tt e9 (hB5.same e8))).trans ea.tt) hR), wf_of hm.wf.prime (by show 0 < rs.length; omega) (by show rs.length ≤ 64; omega) (fun r hr' => ?_) (by show jj < rs.length; omega)⟩ rfl
      show RowOk m.p rs.length r
      rw [hrl]
      exact hok r hr'
end
end L2.K55
namespace L2.K55
open PySem PySem.Spec PyProof.Rows
theorem hide_upd' {H : Hp} {D : Addr} {o : HO} : Same (hide D H) (hide D (upd H D o)) := fun a u q => by
  have hne : a ≠ D := fun ab => by rw [ab, hide_at] at q; cases q
  rw [hide_ne hne] at q ⊢
  rw [upd_ne hne]
  exact q
theorem cSum_eq (m : Mc) (cs : List Int) (h : cs.length = m.rows.length) : (((List.range cs.length).map fun k => cs.getD k 0 * ((m.rows[k]?).getD (0, [])).1).sum) = ((m.rows.zip cs).map fun rc => rc.1.1 * rc.2).sum := by
  congr 1
  apply List.ext_getElem?
  intro i
  rw [List.getElem?_map, List.getElem?_map]
  rcases Nat.lt_or_ge i cs.length with hi | hi
  · have h1 : cs[i]? = some cs[i] := List.getElem?_eq_getElem hi
    have h2 : m.rows[i]? = some m.rows[i] := List.getElem?_eq_getElem (by omega)
    rw [List.getElem?_range hi, (List.getElem?_zip_eq_some.mpr ⟨h2, h1⟩ : (m.rows.zip cs)[i]? = some (m.rows[i], cs[i]))]
    show some (cs.getD i 0 * ((m.rows[i]?).getD (0, [])).1) = some (m.rows[i].1 * cs[i])
    rw [List.getD_eq_getElem?_getD, h1, h2]
    show some (cs[i] * m.rows[i].1) = _
    rw [Int.mul_comm]
  · rw [List.getElem?_eq_none (by rw [List.length_range]; exact hi), List.getElem?_eq_none (by rw [List.length_zip]; omega)]
    rfl
section
variable {P : Program} {w : World} {K : PySem.W.Frag} {mg : Str → Option Value} {base : Heap} {C : Addr}
def spLFirst (K : PySem.W.Frag) : Sp := fun vs H Q _ => ∃ (v : V) (m : Mc), vs = [v] ∧ MOk K H v m ∧ ∀ (l : Addr) (H' : Hp), H l = none → Same H H' → H' l = some (.lst ((cFirst m).map V.int)) → Q (.ref l) H'
theorem k_lfirst (R : Raw K mg "_law_first" s_law_first) (B : Bl mg) : Known P w K mg base "_law_first" 1 ["_law_m"] (spLFirst K) := by
  refine known R sc_law_first (fun _ _ _ _ _ _ us hl => match us, hl with | [_], _ => rfl) (fun vs H Q E h => by obtain ⟨_, _, rfl, _⟩ := h; rfl) (fun f cdv A outer s H vs Q E hr h => ?_)
  obtain ⟨v, m, rfl, hm, q⟩ := h
  have nd := sc_law_first.nd
  refine ⟨_, pss_one (ps_ret (pe_lc (own := [("_law_k", 1)]) (g := gName 1) (tt := tYes) rfl nd (pi_range1 (by rfl) B.range (pa_cons (pe_callB call_len_seq (by rfl) B.len PySem.boot_len (pa_cons (pe_ix ix_tup (pv 0) pe_int (fun _ _ => rfl)) pa_nil)) pa_nil))
    (blkOk_by (N := N_law_first) (sc := defScope s_law_first) (by decide +kernel)) (fun _ _ _ _ _ => pg_name (i := 1) nd rfl (Or.inl rfl)) (fun _ _ _ _ _ => pts_nil)
    (fun _ _ _ _ _ => pe_callTy call_int1 (by rfl) B.int (by decide +kernel) (pa_cons (pe_cmpR op_eq (pv 1) (pe_ix (ixT (K := K)) (pv 0) pe_int (fun _ _ => rfl)) (nomark _)) pa_nil)))), ?_⟩
  obtain ⟨a, l, xs, rfl, m1, m2, m3⟩ := dM_un hm.d
  have hxl := rows_len m3
  have hsm := hm.wf.small
  refine ⟨_, rfl, a, _, _, _, rfl, rfl, m1, at_of (j := 1) rfl rfl, l, _, rfl, .inl m2, _, rfl, by omega, by omega, fun D hD => lc_ys walk_range sameFn hD (by simp; omega) ((cFirst m).map V.int) (by simp [cFirst]; omega) (fun _ _ => trivial) (fun i y z H3 H4 hz e hy Q' hq => ?_) fun H' e hD2 => ?_⟩
  · obtain ⟨rfl, rfl⟩ := hy
    obtain ⟨c, hc, rfl⟩ := ns_get hz
    unfold cFirst at hc
    rw [List.getElem?_map] at hc
    have hi : i < m.rows.length := by
      rcases Nat.lt_or_ge i m.rows.length with h | h
      · exact h
      · rw [List.getElem?_eq_none (by rw [List.length_range]; exact h)] at hc; cases hc
    rw [List.getElem?_range hi] at hc
    cases hc
    refine ⟨rfl, _, rfl, _, rfl, a, _, _, _, rfl, rfl, Same.tup e m1, at_of (j := 2) rfl rfl, rfl, .inr ⟨_, rfl, ?_⟩⟩
    have e2 : (if decide (V.int (0 + (i : Int)) = V.int (m.start : Nat)) = true then (1 : Int) else 0) = if i = m.start then 1 else 0 := by
      by_cases hs : i = m.start
      · rw [if_pos hs, if_pos (decide_eq_true (by rw [hs]; simp))]
      · rw [if_neg hs, if_neg (by
          rw [decide_eq_true_iff]
          intro q
          injection q with q
          exact hs (by omega))]
    rw [e2]
    exact hq _ (Same.refl _)
  · exact q D H' hD (e.trans hide_same) hD2
structure RArgs (K : PySem.W.Frag) (H : Hp) (v u : V) (m : Mc) (cs : List Int) : Prop where
  ok : MOk K H v m
  d : Dp K H u (dI cs)
  len : cs.length = m.rows.length
theorem RArgs.same {H H' : Hp} {v u : V} {m : Mc} {cs : List Int} (h : RArgs K H v u m cs) (e : Same H H') : RArgs K H' v u m cs := ⟨h.ok.same e, sm e h.d, h.len⟩
def spLater (K : PySem.W.Frag) : Sp := fun vs H Q _ => ∃ (v u : V) (m : Mc) (cs : List Int), vs = [v, u] ∧ RArgs K H v u m cs ∧ ∀ (l : Addr) (H' : Hp), H l = none → Same H H' → H' l = some (.lst ((cNext m cs).map V.int)) → Q (.ref l) H'
theorem k_later (R : Raw K mg "_law_later" s_law_later) (B : Bl mg) : Known P w K mg base "_law_later" 1 ["_law_m", "_law_row"] (spLater K) := by
  refine known R sc_law_later (fun _ _ _ _ _ _ us hl => match us, hl with | [_, _], _ => rfl) (fun vs H Q E h => by obtain ⟨_, _, _, _, rfl, _⟩ := h; rfl) (fun f cdv A outer s H vs Q E hr h => ?_)
  obtain ⟨v, u, m, cs, rfl, h, q⟩ := h
  have nd := sc_law_later.nd
  refine ⟨_, pss_cons (ps_set (i := 2) nd rfl (Or.inl rfl) (pe_op op_rep (pe_lst (pa_cons pe_int pa_nil)) (pe_callB call_len_seq (by rfl) B.len PySem.boot_len (pa_cons (pe_ix ix_tup (pv 0) pe_int (fun _ _ => rfl)) pa_nil))))
    (pss_cons (ps_for PassesOwn.never rfl (pi_range1 (by rfl) B.range (pa_cons (pe_callB call_len_seq (by rfl) B.len PySem.boot_len (pa_cons (pv 1) pa_nil)) pa_nil)) (pg_name (i := 3) nd rfl (Or.inl rfl))
      (pss_one (ps_for PassesOwn.never rfl (pi_tup (pe_ix ix_tup (pe_ix ix_list (pe_ix ix_tup (pv 0) pe_int (fun _ _ => rfl)) (pv 3) (fun _ _ => rfl)) pe_int (fun _ _ => rfl))) (pg_name (i := 4) nd rfl (Or.inl rfl))
        (pss_one (ps_asg (pe_op op_mod (pe_callTy call_int1 (by rfl) B.int (by decide +kernel) (pa_cons (pe_op op_add (pe_ix ix_list (pv 2) (pv 4) (fun _ _ => rfl)) (pe_ix ix_list (pv 1) (pv 3) (fun _ _ => rfl))) pa_nil)) (pe_ix ix_tup (pv 0) pe_int (fun _ _ => rfl))) (pg_sub (pv 2) (pv 4) set_list))))))
    (pss_one (ps_ret (pv 2)))), ?_⟩
  obtain ⟨a, l, xs, rfl, m1, m2, m3⟩ := dM_un h.ok.d
  obtain ⟨c, rfl, hc⟩ := dI_un h.d
  have hxl := rows_len m3
  have hsm := h.ok.wf.small
  have hcl := h.len
  have hp7 : 2 ≤ m.p ∧ m.p ≤ 7 := by rcases h.ok.wf.prime with e | e | e | e <;> omega
  refine ⟨by show 1 ≤ sizeLine; decide, fun p0 hp0 => ?_⟩
  have e2 : Same H (upd H p0 (.lst [.int 0])) := (Same.refl H).new hp0
  refine ⟨_, rfl, a, _, _, _, rfl, rfl, Same.tup e2 m1, at_of (j := 1) rfl rfl, l, _, rfl, .inl (e2.seq m2), p0, _, [.int 0], rfl, rfl, upd_same, by omega, by omega, by show 1 * _ ≤ _; rw [sizeLine_eq]; simp; omega, fun lf hlf => ?_⟩
  have elf : (List.replicate (((xs.length : Nat) : Int)).toNat [V.int 0]).flatten = (List.replicate m.rows.length (0 : Int)).map V.int := by
    rw [Int.toNat_natCast, hxl]
    have : ∀ k : Nat, (List.replicate k [V.int 0]).flatten = (List.replicate k (0 : Int)).map V.int := by
      intro k
      induction k with
      | zero => rfl
      | succ k ih => rw [List.replicate_succ, List.flatten_cons, ih, List.replicate_succ]; rfl
    exact this _
  rw [elf]
  have e3 := e2.new (o := .lst ((List.replicate m.rows.length (0 : Int)).map V.int)) hlf
  have hlf0 : H lf = none := e2.free hlf
  refine ⟨_, rfl, c, _, rfl, .inl (e3.seq hc), _, rfl, by omega, by rw [List.length_map]; omega, for_it (walk_range (lo := 0)) (fun i σ H' => ∃ (o3 o4 : Option V), σ = [some (.ref a), some (.ref c), some (.ref lf), o3, o4] ∧ Same H H' ∧
      H' lf = some (.lst ((((m.rows.zip cs).take i).foldl (fun f rc => bumpL m.p f rc.1.2 rc.2) (List.replicate m.rows.length (0 : Int))).map V.int)))
    ⟨_, _, rfl, e3, upd_same⟩ (fun _ _ _ _ _ => trivial) ?_ ?_⟩
  · rintro i y σ Hx H5 hi ⟨o3, o4, rfl, e5, h5⟩ ⟨rfl, rfl⟩
    have hi' : i < m.rows.length := by simp at hi; omega
    have hr0 : m.rows[i]? = some m.rows[i] := List.getElem?_eq_getElem hi'
    generalize m.rows[i] = r at hr0
    obtain ⟨b, g, hb1, hb2, hb3⟩ := rows_at m3 hr0
    obtain ⟨ct, hct⟩ : ∃ ct, cs[i]? = some ct := ⟨_, List.getElem?_eq_getElem (by omega)⟩
    have hzi : (m.rows.zip cs)[i]? = some (r, ct) := by rw [List.getElem?_zip_eq_some]; exact ⟨hr0, hct⟩
    have hf0 : (((m.rows.zip cs).take i).foldl (fun f rc => bumpL m.p f rc.1.2 rc.2) (List.replicate m.rows.length (0 : Int))).length = m.rows.length := by
      have hh : ∀ (l : List ((Int × List Nat) × Int)) (f : List Int), (l.foldl (fun f rc => bumpL m.p f rc.1.2 rc.2) f).length = f.length := by
        intro l
        induction l with
        | nil => intro f; rfl
        | cons a l ih => intro f; rw [List.foldl_cons, ih, bumpL_length]
      rw [hh, List.length_replicate]
    have hnx := foldl_take (fun f (rc : (Int × List Nat) × Int) => bumpL m.p f rc.1.2 rc.2) (List.replicate m.rows.length (0 : Int)) hzi
    generalize (((m.rows.zip cs).take i).foldl (fun f rc => bumpL m.p f rc.1.2 rc.2) (List.replicate m.rows.length (0 : Int))) = f0 at *
    refine ⟨_, rfl, a, _, _, _, rfl, rfl, Same.tup e5 m1, at_of (j := 1) rfl rfl, _, rfl, l, _, _, .ref b, rfl, rfl, e5.seq m2, at_of (j := i) (by omega) hb1, b, _, _, _, rfl, rfl, Same.tup e5 hb2, at_of (j := 1) rfl rfl, g, rfl, ⟨_, Same.tup e5 hb3⟩,
      for_it (walk_tup (xs := goalsV r.2)) (fun j σ H' => ∃ (o4 : Option V), σ = [some (.ref a), some (.ref c), some (.ref lf), some (.int (0 + (i : Int))), o4] ∧ Same H H' ∧ H' lf = some (.lst (((r.2.take j).foldl (fun f g => f.set g ((f.getD g 0 + ct) % (m.p : Int))) f0).map V.int))) ⟨_, rfl, e5, h5⟩ ?_ ?_ ?_⟩
    · rintro j σ H' _ ⟨o4, rfl, e7, h7⟩
      exact Same.tup e7 hb3
    · rintro j y σ H7 H7' hj ⟨o4, rfl, e7, h7⟩ ⟨rfl, hy⟩
      obtain ⟨gj, hgj, rfl⟩ := ns_get hy
      have hgl : gj < m.rows.length := h.ok.wf.goal r (List.mem_of_getElem? hr0) gj (List.mem_of_getElem? hgj)
      have hfl : ((r.2.take j).foldl (fun f g => f.set g ((f.getD g 0 + ct) % (m.p : Int))) f0).length = m.rows.length := (bumpL_length m.p (r.2.take j) ct f0).trans hf0
      have hf := foldl_take (fun (f : List Int) (g : Nat) => f.set g ((f.getD g 0 + ct) % (m.p : Int))) f0 hgj
      generalize ((r.2.take j).foldl (fun f g => f.set g ((f.getD g 0 + ct) % (m.p : Int))) f0) = f1 at *
      refine ⟨_, rfl, _, rfl, lf, _, _, _, rfl, rfl, SqL.of h7, at_of (j := gj) rfl (getD_at (by omega)), _, rfl, _, rfl, c, _, _, .int ct, rfl, rfl, e7.seq hc, at_of (j := i) (by omega) (by rw [List.getElem?_map, hct]; rfl), _, _, rfl, rfl, .inl ⟨_, rfl, _, rfl, a, _, _, _, rfl, rfl, Same.tup e7 m1, at_of (j := 0) rfl rfl, _, _, rfl, rfl, by show (0 : Int) < m.p; omega,
        _, rfl, _, rfl, lf, _, _, gj, rfl, rfl, h7, ixN_nat (by rw [List.length_map]; omega), ?_⟩⟩
      refine ⟨_, rfl, e7.mut hlf0, ?_⟩
      rw [upd_same, hf, List.map_set]
    · rintro σ H7 ⟨o4, rfl, e7, h7⟩
      refine ⟨_, _, rfl, e7, ?_⟩
      rw [h7, hnx]
      show some (HO.lst (((r.2.take (goalsV r.2).length).foldl _ f0).map V.int)) = _
      rw [List.take_of_length_le (by unfold goalsV; rw [List.length_map]; exact Nat.le_refl _)]
      rfl
  · rintro σ H5 ⟨o3, o4, rfl, e5, h5⟩
    rw [List.take_of_length_le (by rw [List.length_zip]; simp; omega)] at h5
    refine ⟨_, rfl, q lf H5 hlf0 e5 ?_⟩
    rw [h5]
    show some (HO.lst ((later m cs).map V.int)) = _
    rw [later_eq]
def spSum (K : PySem.W.Frag) : Sp := fun vs H Q _ => ∃ (v u : V) (m : Mc) (cs : List Int), vs = [v, u] ∧ RArgs K H v u m cs ∧ ∀ H', Same H H' → Q (.int (cTot m cs)) H'
theorem k_sum (R : Raw K mg "_law_sum" s_law_sum) (B : Bl mg) : Known P w K mg base "_law_sum" 1 ["_law_m", "_law_row"] (spSum K) := by
  refine known R sc_law_sum (fun _ _ _ _ _ _ us hl => match us, hl with | [_, _], _ => rfl) (fun vs H Q E h => by obtain ⟨_, _, _, _, rfl, _⟩ := h; rfl) (fun f cdv A outer s H vs Q E hr h => ?_)
  obtain ⟨v, u, m, cs, rfl, h, q⟩ := h
  have nd := sc_law_sum.nd
  refine ⟨_, pss_one (ps_ret (pe_op op_mod (pe_callTy call_int1 (by rfl) B.int (by decide +kernel) (pa_cons (pe_callB (cr_sum rfl) (by rfl) B.sum (by decide +kernel) (pa_cons
      (pe_lc (own := [("_law_k", 2)]) (g := gName 2) (tt := tYes) rfl nd (pi_range1 (by rfl) B.range (pa_cons (pe_callB call_len_seq (by rfl) B.len PySem.boot_len (pa_cons (pv 1) pa_nil)) pa_nil)) (blkOk_by (N := N_law_sum) (sc := defScope s_law_sum) (by decide +kernel))
        (fun _ _ _ _ _ => pg_name (i := 2) nd rfl (Or.inl rfl)) (fun _ _ _ _ _ => pts_nil) (fun _ _ _ _ _ => pe_op op_mul (pe_ix (ixL (K := K)) (pv 1) (pv 2) (fun _ _ => rfl)) (pe_ix (ixT (K := K)) (pe_ix (ixL (K := K)) (pe_ix (ixT (K := K)) (pv 0) pe_int (fun _ _ => rfl)) (pv 2) (fun _ _ => rfl)) pe_int (fun _ _ => rfl)))) pa_nil)) pa_nil))
      (pe_ix ix_tup (pv 0) pe_int (fun _ _ => rfl)))), ?_⟩
  obtain ⟨a, l, xs, rfl, m1, m2, m3⟩ := dM_un h.ok.d
  obtain ⟨c, rfl, hc⟩ := dI_un h.d
  have hxl := rows_len m3
  have hsm := h.ok.wf.small
  have hcl := h.len
  have hp7 : 2 ≤ m.p ∧ m.p ≤ 7 := by rcases h.ok.wf.prime with e | e | e | e <;> omega
  refine ⟨_, rfl, c, _, rfl, .inl hc, _, rfl, by omega, by rw [List.length_map]; omega, fun D hD => lc_ys walk_range sameFn hD (by simp; omega) (((List.range cs.length).map fun k => cs.getD k 0 * ((m.rows[k]?).getD (0, [])).1).map V.int) (by simp) (fun _ _ => trivial) (fun i y z H3 H4 hz e hy Q' hq => ?_) fun H' e hD2 => ?_⟩
  · obtain ⟨rfl, rfl⟩ := hy
    obtain ⟨k, hk, rfl⟩ := ns_get hz
    rw [List.getElem?_map] at hk
    have hi : i < cs.length := by
      rcases Nat.lt_or_ge i cs.length with h | h
      · exact h
      · rw [List.getElem?_eq_none (by rw [List.length_range]; exact h)] at hk; cases hk
    rw [List.getElem?_range hi] at hk
    cases hk
    obtain ⟨r, hr0⟩ : ∃ r, m.rows[i]? = some r := ⟨_, List.getElem?_eq_getElem (by omega)⟩
    obtain ⟨b, g, hb1, hb2, hb3⟩ := rows_at m3 hr0
    obtain ⟨t0, t1⟩ := h.ok.wf.turn r (List.mem_of_getElem? hr0)
    refine ⟨rfl, _, rfl, _, rfl, c, _, _, _, rfl, rfl, e.seq hc, at_of (j := i) (by omega) (getD_at hi), _, rfl, a, _, _, _, rfl, rfl, Same.tup e m1, at_of (j := 1) rfl rfl, _, rfl, l, _, _, .ref b, rfl, rfl, e.seq m2, at_of (j := i) (by omega) hb1, b, _, _, _, rfl, rfl, Same.tup e hb2, at_of (j := 0) rfl rfl, _, _, rfl, rfl, .inr (show -(2 ^ 64) < r.1 ∧ r.1 < 2 ^ 64 from ⟨by omega, by omega⟩), ?_⟩
    have hq2 := hq _ (Same.refl _)
    dsimp only at hq2
    rw [hr0] at hq2
    exact hq2
  · have eA : Same H H' := e.trans hide_same
    refine ⟨D, _, rfl, SqL.of hD2, .inl ⟨_, rfl, _, rfl, a, _, _, _, rfl, rfl, Same.tup eA m1, at_of (j := 0) rfl rfl, _, _, rfl, rfl, by show (0 : Int) < m.p; omega, ?_⟩⟩
    rw [cSum_eq m cs hcl]
    exact q H' eA
def spRowsOf (K : PySem.W.Frag) : Sp := fun vs H Q _ => ∃ (v : V) (m : Mc) (many : Nat), vs = [v, .int many] ∧ MOk K H v m ∧ 1 ≤ many ∧ many ≤ 1000 ∧ ∀ (l : Addr) (H' : Hp) (xs : List V), H l = none → Same H H' → H' l = some (.lst xs) → DpAll K (nw H H') xs ((rowsOf m many).map dI) → Q (.ref l) H'
theorem k_rows_of (R : Raw K mg "_law_rows_of" s_law_rows_of) (B : Bl mg) (F1 : Known P w K mg base "_law_first" 1 ["_law_m"] (spLFirst K)) (F2 : Known P w K mg base "_law_later" 1 ["_law_m", "_law_row"] (spLater K)) :
    Known P w K mg base "_law_rows_of" 2 ["_law_m", "_law_many"] (spRowsOf K) := by
  refine known R sc_law_rows_of (fun _ _ _ _ _ _ us hl => match us, hl with | [_, _], _ => rfl) (fun vs H Q E h => by obtain ⟨_, _, _, rfl, _⟩ := h; rfl) (fun f cdv A outer s H vs Q E hr h => ?_)
  obtain ⟨v, m, many, rfl, hm, hm1, hm2, q⟩ := h
  have nd := sc_law_rows_of.nd
  refine ⟨_, pss_cons (ps_set (i := 2) nd rfl (Or.inl rfl) (pe_lst (pa_cons (pk F1 hr (by rfl) (pa_cons (pv 0) pa_nil)) pa_nil)))
    (pss_cons (ps_while PassesOwn.never (pt_cmpR op_lt (pe_callB call_len_seq (by rfl) B.len PySem.boot_len (pa_cons (pv 2) pa_nil)) (pv 1) (nomark _))
      (pss_one (ps_expr (pe_bm PySem.F.plainAttrs_list PySem.F.slot_list_append PySem.F.type_list_append mt_append (pv 2) (pa_cons (pk F2 hr (by rfl) (pa_cons (pv 0) (pa_cons (pe_ix ix_list (pv 2) (pe_un un_neg pe_int) (fun _ _ => rfl)) pa_nil))) pa_nil)))))
    (pss_one (ps_ret (pe_slice sl_list (pv 2) po_none (po_some (pv 1)))))), ?_⟩
  refine ⟨_, rfl, v, m, rfl, hm, fun l0 H1 hl0 e1 h1 => ⟨by show 1 ≤ sizeLine; decide, fun lf hlf => ?_⟩⟩
  have e2 : Same H1 (upd H1 lf (.lst [.ref l0])) := (Same.refl H1).new hlf
  have hlf0 : H lf = none := e1.free hlf
  have hn0 : l0 ≠ lf := ne_of_none h1 hlf
  refine while_d (fun μ σ H' => ∃ (n : Nat) (xs : List V), μ = many - n ∧ 1 ≤ n ∧ n ≤ many ∧ σ = [some v, some (.int many), some (.ref lf)] ∧ Same H H' ∧ H' lf = some (.lst xs) ∧ DpAll K (nw H (hide lf H')) xs ((rowsOf m n).map dI)) (many - 1)
    ⟨1, [.ref l0], rfl, Nat.le_refl _, hm1, rfl, e1.trans e2, upd_same, .cons (dI_mk (SqL.of (by rw [nw_of hl0, hide_ne hn0]; exact e2 _ _ h1))) .nil⟩ ?_
  rintro μ σ H2 ⟨n, xs, rfl, hn1, hn2, rfl, e, hl2, hda⟩
  have hxl : xs.length = n := by rw [dpa_len hda, List.length_map, rowsOf_length]
  refine ⟨_, rfl, lf, xs, rfl, .inl (SqL.of hl2), _, rfl, _, _, rfl, rfl, _, rfl, ?_⟩
  rw [hxl]
  by_cases hlt : n < many
  · refine ifT (decide_eq_true (by omega)) ⟨_, fun _ _ h => h, ?_⟩
    obtain ⟨y, hy, hd⟩ := dpa_get hda (i := n - 1) (d := dI (cIter m (n - 1))) (by rw [List.getElem?_map, rowsOf_get m (by omega)]; rfl)
    refine ⟨_, rfl, .inl ⟨rfl, _, SqL.of hl2⟩, _, rfl, _, rfl, _, rfl, lf, xs, _, y, rfl, rfl, SqL.of hl2, atI_neg1 (by rw [hxl]; exact hy), v, y, m, cIter m (n - 1), rfl, ⟨hm.same e, sm (nw_same.trans hide_same) hd, cIter_length m _⟩, fun l H3 hl3 e3 h3 => ?_⟩
    have hl2' := e3 _ _ hl2
    have nll : l ≠ lf := fun ab => by rw [ab, hl2] at hl3; cases hl3
    refine ⟨lf, xs, _, rfl, rfl, hl2', Nat.lt_of_le_of_lt (show xs.length ≤ 100000 by omega) (by decide), many - (n + 1), by omega, n + 1, xs ++ [.ref l], rfl, by omega, by omega, rfl, (e.trans e3).mut hlf0, upd_same, ?_⟩
    have hro : rowsOf m (n + 1) = rowsOf m n ++ [cNext m (cIter m (n - 1))] := by
      have hc : cNext m (cIter m (n - 1)) = cIter m n := by
        obtain ⟨k, rfl⟩ : ∃ k, n = k + 1 := ⟨n - 1, by omega⟩
        rfl
      rw [hc]
      unfold rowsOf
      rw [List.range_succ, List.map_append]
      rfl
    rw [hro, List.map_append]
    refine sma (nw_mono (Same.refl _) fun a o _ h => hide_upd' a o h) (dpa_app (sma (nw_mono (Same.refl _) fun a o _ h => hide_hide e3 a o h) hda) (.cons (dI_mk (SqL.of ?_)) .nil))
    rw [nw_of (e.free hl3), hide_ne nll]
    exact h3
  · refine ifF (decide_eq_false (by omega)) ?_
    have hnm : n = many := by omega
    subst hnm
    refine ⟨_, rfl, _, rfl, _, rfl, lf, xs, rfl, SqL.of hl2, fun l hl => ?_⟩
    have ecut : cutV xs none (some (n : Int)) = xs := by rw [cutV_upto, List.take_of_length_le (by omega)]
    rw [ecut]
    have e3 : Same H2 (upd H2 l (.lst xs)) := (Same.refl H2).new hl
    exact q l _ xs (e.free hl) (e.trans e3) upd_same (sma (nw_mono (Same.refl _) fun a o _ h => e3 a o (hide_same a o h)) hda)
def spDecided (K : PySem.W.Frag) : Sp := fun vs H Q _ => ∃ (v : V) (m : Mc), vs = [v, .int 40] ∧ MOk K H v m ∧ (∀ H', Same H H' → Q .non H') ∧
  ∀ H' (t lf : Addr) (xs : List V) (u : V), Same H H' → H lf = none → H' t = some (.tup [.ref lf, u]) → H' lf = some (.lst xs) → 1 ≤ xs.length → xs.length ≤ 40 → (u = .non ∨ ∃ k : Nat, u = .int k) → Q (.ref t) H'
theorem k_decided (R : Raw K mg "_law_decided" s_law_decided) (B : Bl mg) (F1 : Known P w K mg base "_law_first" 1 ["_law_m"] (spLFirst K)) (F2 : Known P w K mg base "_law_later" 1 ["_law_m", "_law_row"] (spLater K)) (F3 : Known P w K mg base "_law_sum" 1 ["_law_m", "_law_row"] (spSum K)) :
    Known P w K mg base "_law_decided" 2 ["_law_m", "_law_top"] (spDecided K) := by
  refine known R sc_law_decided (fun _ _ _ _ _ _ us hl => match us, hl with | [_, _], _ => rfl) (fun vs H Q E h => by obtain ⟨_, _, rfl, _⟩ := h; rfl) (fun f cdv A outer s H vs Q E hr h => ?_)
  obtain ⟨v, m, rfl, hm, q1, q2⟩ := h
  have nd := sc_law_decided.nd
  have hu := hu_of hr
  refine ⟨_, pss_cons (ps_par (i := 2) (j := 3) (by rfl) nd rfl rfl (by decide) rfl rfl (pa_cons (pe_lst pa_nil) (pa_cons pe_dnewT pa_nil)) (by rfl))
    (pss_cons (ps_set (i := 4) nd rfl (Or.inl rfl) (pk F1 hr (by rfl) (pa_cons (pv 0) pa_nil)))
    (pss_cons (ps_while PassesOwn.never (pt_cmp (pc_dnotin hu (pe_callTy call_tuple_of (by rfl) B.tuple (by decide +kernel) (pa_cons (pv 4) pa_nil)) (pv 3)))
      (pss_cons (ps_if (pt_cmpR op_eq (pe_callB call_len_seq (by rfl) B.len PySem.boot_len (pa_cons (pv 2) pa_nil)) (pv 1) (nomark _)) (pss_one (ps_ret pe_non)) pss_nil)
      (pss_cons (ps_dput hu (pv 3) (pe_callTy call_tuple_of (by rfl) B.tuple (by decide +kernel) (pa_cons (pv 4) pa_nil)) (pe_callB call_len_seq (by rfl) B.len PySem.boot_len (pa_cons (pv 2) pa_nil)) (by rfl))
      (pss_cons (ps_expr (pe_bm PySem.F.plainAttrs_list PySem.F.slot_list_append PySem.F.type_list_append mt_append (pv 2) (pa_cons (pv 4) pa_nil)))
      (pss_cons (ps_if (pt_cmpR op_eq (pk F3 hr (by rfl) (pa_cons (pv 0) (pa_cons (pv 4) pa_nil))) pe_int (nomark _)) (pss_one (ps_ret (pe_tup (pa_cons (pv 2) (pa_cons pe_non pa_nil))))) pss_nil)
      (pss_one (ps_set (i := 4) nd rfl (Or.inl rfl) (pk F2 hr (by rfl) (pa_cons (pv 0) (pa_cons (pv 4) pa_nil))))))))))
    (pss_one (ps_ret (pe_tup (pa_cons (pv 2) (pa_cons (pe_dget hu (pv 3) (pe_callTy call_tuple_of (by rfl) B.tuple (by decide +kernel) (pa_cons (pv 4) pa_nil)) (fun _ _ => rfl)) pa_nil))))))), ?_⟩
  refine ⟨by show 0 ≤ sizeLine; decide, fun lf hlf => fun dp hdp => ⟨_, _, rfl, ?_⟩⟩
  have e1 : Same H (upd H lf (.lst [])) := (Same.refl H).new hlf
  have e2 := e1.new (o := .dT []) hdp
  have ndl : lf ≠ dp := ne_of_none upd_same hdp
  have hdp0 : H dp = none := e1.free hdp
  have hl2 : (upd (upd H lf (.lst [])) dp (.dT [])) lf = some (.lst []) := by rw [upd_ne ndl, upd_same]
  have hd2 : (upd (upd H lf (.lst [])) dp (.dT [])) dp = some (.dT []) := upd_same
  generalize upd (upd H lf (.lst [])) dp (.dT []) = H2 at *
  refine ⟨_, rfl, v, m, rfl, hm.same e2, fun l0 H3 hl0 e3 h3 => ?_⟩
  refine while_d (fun μ σ H' => ∃ (lh : Addr) (cs : List Int) (xs : List V) (kvs : List (List Key × V)), μ = 40 - xs.length ∧ xs.length ≤ 40 ∧ (xs = [] → kvs = []) ∧ kvs.length ≤ xs.length ∧ σ = [some v, some (.int 40), some (.ref lf), some (.ref dp), some (.ref lh)] ∧ Same H H' ∧ H' lf = some (.lst xs) ∧ H' dp = some (.dT kvs) ∧ lh ≠ lf ∧
      H' lh = some (.lst (cs.map V.int)) ∧ cs.length = m.rows.length ∧ ∀ k u, valV kvs k = some u → ∃ j : Nat, u = .int j) 40
    ⟨l0, cFirst m, [], [], rfl, by decide, fun _ => rfl, Nat.le_refl _, rfl, e2.trans e3, e3 _ _ hl2, e3 _ _ hd2, fun e => (by rw [e, hl2] at hl0; cases hl0), h3, cFirst_length m, fun k u h => (by cases h)⟩ ?_
  rintro μ σ H4 ⟨lh, cs, xs, kvs, rfl, hx40, hxk, hkl, rfl, e, hl4, hd4, nlh, hh4, hcl, hval⟩
  have hkey : ∀ cs : List Int, (cs.map fun i => (Sum.inl i : Key)).map kV = cs.map V.int := fun cs => by
    rw [List.map_map]
    rfl
  refine ⟨_, rfl, lh, _, rfl, .inl ⟨SqL.of hh4, fun t ht => ?_⟩⟩
  have e5 : Same H4 (upd H4 t (.tup (cs.map V.int))) := (Same.refl H4).new ht
  refine ⟨_, rfl, dp, _, rfl, DGet.t (k := cs.map fun i => (Sum.inl i : Key)) (e5 _ _ hd4) (by rw [upd_same, hkey]), _, rfl, ?_⟩
  have hl5 := e5 _ _ hl4
  have hd5 := e5 _ _ hd4
  have hh5 := e5 _ _ hh4
  have e05 := e.trans e5
  generalize upd H4 t (.tup (cs.map V.int)) = H5 at *
  cases hv : valV kvs (cs.map fun i => (Sum.inl i : Key)) with
  | some u =>
    obtain ⟨j, rfl⟩ := hval _ _ hv
    refine iteF ⟨_, rfl, _, rfl, _, rfl, lh, _, rfl, .inl ⟨SqL.of hh5, fun t2 ht2 => ?_⟩⟩
    have e6 : Same H5 (upd H5 t2 (.tup (cs.map V.int))) := (Same.refl H5).new ht2
    refine ⟨dp, .int j, rfl, ?_, by show 2 ≤ sizeLine; decide, fun t3 ht3 => ?_⟩
    · have := DGet.t (k := cs.map fun i => (Sum.inl i : Key)) (e6 _ _ hd5) (b := t2) (by rw [upd_same, hkey])
      rw [hv] at this
      exact this
    · have e7 := e6.new (o := .tup [.ref lf, .int j]) ht3
      have hx1 : 1 ≤ xs.length := by
        cases xs with
        | nil => rw [hxk rfl] at hv; cases hv
        | cons a l => exact Nat.succ_le_succ (Nat.zero_le _)
      exact q2 _ t3 lf xs (.int j) (e05.trans e7) hlf upd_same (e7 _ _ hl5) hx1 hx40 (.inr ⟨j, rfl⟩)
  | none =>
    refine iteT ⟨_, fun _ _ h => h, ?_⟩
    refine ⟨_, rfl, lf, xs, rfl, .inl (SqL.of hl5), _, rfl, rfl, _, rfl, ?_⟩
    by_cases h40 : xs.length = 40
    · exact ifT (decide_eq_true (by rw [h40]; rfl)) (q1 H5 e05)
    refine ifF (decide_eq_false fun e => h40 (by injection e with e; omega)) ?_
    refine ⟨_, rfl, lf, xs, rfl, .inl (SqL.of hl5), _, rfl, _, rfl, lh, _, rfl, .inl ⟨SqL.of hh5, fun t2 ht2 => ?_⟩⟩
    have e6 : Same H5 (upd H5 t2 (.tup (cs.map V.int))) := (Same.refl H5).new ht2
    have hd6 := e6 _ _ hd5
    refine ⟨dp, _, rfl, DPut.t (k := cs.map fun i => (Sum.inl i : Key)) hd6 (by rw [upd_same, hkey]) (Nat.lt_of_le_of_lt (show kvs.length ≤ 100000 by omega) (by decide)), ?_⟩
    have ndt : ∀ {a : Addr} {xs : List V}, H5 a = some (.lst xs) → (upd (upd H5 t2 (.tup (cs.map V.int))) dp (.dT (putK kvs (cs.map fun i => (Sum.inl i : Key)) (.int xs.length)))) a = some (.lst xs) := fun {a ys} ha => by
      rw [upd_ne (fun ab => by rw [ab, hd5] at ha; cases ha)]
      exact e6 _ _ ha
    have hl7 : (upd (upd H5 t2 (.tup (cs.map V.int))) dp (.dT (putK kvs (cs.map fun i => (Sum.inl i : Key)) (.int xs.length)))) lf = some (.lst xs) := by
      rw [upd_ne (fun ab => by rw [ab, hd5] at hl5; cases hl5)]
      exact e6 _ _ hl5
    have hh7 : (upd (upd H5 t2 (.tup (cs.map V.int))) dp (.dT (putK kvs (cs.map fun i => (Sum.inl i : Key)) (.int xs.length)))) lh = some (.lst (cs.map V.int)) := by
      rw [upd_ne (fun ab => by rw [ab, hd5] at hh5; cases hh5)]
      exact e6 _ _ hh5
    have hd7 : (upd (upd H5 t2 (.tup (cs.map V.int))) dp (.dT (putK kvs (cs.map fun i => (Sum.inl i : Key)) (.int xs.length)))) dp = some (.dT (putK kvs (cs.map fun i => (Sum.inl i : Key)) (.int xs.length))) := upd_same
    have e07 : Same H (upd (upd H5 t2 (.tup (cs.map V.int))) dp (.dT (putK kvs (cs.map fun i => (Sum.inl i : Key)) (.int xs.length)))) := (e05.trans e6).mut hdp0
    clear ndt
    generalize hkv : putK kvs (cs.map fun i => (Sum.inl i : Key)) (.int xs.length) = kvs' at *
    have hkl' : kvs'.length ≤ xs.length + 1 := by
      rw [← hkv, putK_new _ hv, List.length_append]
      show kvs.length + 1 ≤ _
      omega
    have hval' : ∀ k u, valV kvs' k = some u → ∃ j : Nat, u = .int j := fun k u h => by
      rw [← hkv, valV_put] at h
      split at h
      · cases h; exact ⟨_, rfl⟩
      · exact hval _ _ h
    generalize upd (upd H5 t2 (.tup (cs.map V.int))) dp (.dT kvs') = H7 at *
    refine ⟨_, rfl, .inl ⟨rfl, _, SqL.of hl7⟩, _, rfl, lf, xs, _, rfl, rfl, hl7, Nat.lt_of_le_of_lt (show xs.length ≤ 100000 by omega) (by decide), ?_⟩
    have e08 : Same H (upd H7 lf (.lst (xs ++ [.ref lh]))) := e07.mut hlf
    have hh8 : (upd H7 lf (.lst (xs ++ [.ref lh]))) lh = some (.lst (cs.map V.int)) := by rw [upd_ne nlh]; exact hh7
    have hl8 : (upd H7 lf (.lst (xs ++ [.ref lh]))) lf = some (.lst (xs ++ [.ref lh])) := upd_same
    have hd8 : (upd H7 lf (.lst (xs ++ [.ref lh]))) dp = some (.dT kvs') := by rw [upd_ne (fun ab => ndl ab.symm)]; exact hd7
    generalize upd H7 lf (.lst (xs ++ [.ref lh])) = H8 at *
    have ra : RArgs K H8 v (.ref lh) m cs := ⟨hm.same e08, dI_mk (SqL.of hh8), hcl⟩
    refine ⟨_, rfl, _, rfl, v, _, m, cs, rfl, ra, fun H9 e9 => ⟨rfl, _, rfl, ?_⟩⟩
    rcases Int.decEq (cTot m cs) 0 with h0 | h0
    · refine ifF (decide_eq_false fun e => h0 (by injection e)) ?_
      refine ⟨_, rfl, _, rfl, v, _, m, cs, rfl, ra.same e9, fun ln Ha hln ea ha => ⟨40 - (xs ++ [V.ref lh]).length, by rw [List.length_append]; show 40 - (xs.length + 1) < _; omega, ln, cNext m cs, xs ++ [.ref lh], kvs', rfl, by rw [List.length_append]; show xs.length + 1 ≤ 40; omega, fun h => (by cases xs <;> cases h), by rw [List.length_append]; exact hkl', rfl,
        e08.trans (e9.trans ea), ea _ _ (e9 _ _ hl8), ea _ _ (e9 _ _ hd8), fun ab => (by rw [ab, e9 _ _ hl8] at hln; cases hln), ha, cNext_length m cs, hval'⟩⟩
    · refine ifT (decide_eq_true (by rw [h0])) ⟨_, rfl, by show 2 ≤ sizeLine; decide, fun t3 ht3 => ?_⟩
      have ea : Same H9 (upd H9 t3 (.tup [.ref lf, .non])) := (Same.refl H9).new ht3
      exact q2 _ t3 lf (xs ++ [.ref lh]) .non (e08.trans (e9.trans ea)) hlf upd_same (ea _ _ (e9 _ _ hl8)) (by rw [List.length_append]; exact Nat.le_add_left 1 _) (by rw [List.length_append]; show xs.length + 1 ≤ 40; omega) (.inl rfl)
end
end L2.K55
namespace L2.K55
open PySem PySem.Spec PyProof.Rows
theorem eqvAll_dII : ∀ a b : List (List Int), PyData.eqvAll (a.map dI) (b.map dI) = decide (a = b)
  | [], [] => by simp [PyData.eqvAll]
  | [], b :: bs => by simp [PyData.eqvAll]
  | a :: as, [] => by simp [PyData.eqvAll]
  | a :: as, b :: bs => by
    rw [List.map_cons, List.map_cons, PyData.eqvAll, eqv_dI, eqvAll_dII as bs]
    by_cases h1 : a = b
    · by_cases h2 : as = bs <;> simp [h1, h2]
    · simp [h1]
theorem eqv_dII (a b : List (List Int)) : PyData.eqv (.list (a.map dI)) (.list (b.map dI)) = decide (a = b) := by
  rw [PyData.eqv, eqvAll_dII]
theorem lay_dII : ∀ a : List (List Int), PyData.canLayAll0 (a.map dI) = true
  | [] => by simp [PyData.canLayAll0]
  | a :: as => by simp [PyData.canLayAll0, PyData.canLay0, lay_dII as, lay_ints, dI]
theorem depth_dII : ∀ a : List (List Int), PyData.depthAll (a.map dI) ≤ 1
  | [] => by simp [PyData.depthAll]
  | r :: rs => by
    have := depth_dII rs
    have h : PyData.depth (dI r) = 1 := by simp [dI, PyData.depth, depth_ints]
    rw [List.map_cons, PyData.depthAll, h]
    exact Nat.max_le.mpr ⟨Nat.le_refl _, this⟩
theorem shaped_dII (a : List (List Int)) : SeqAt.shaped (.list (a.map dI)) = true := by
  show (PyData.canLay0 (.list (a.map dI)) && decide (PyData.depth (.list (a.map dI)) ≤ 64)) = true
  rw [PyData.canLay0, PyData.depth, lay_dII, Bool.true_and]
  exact decide_eq_true (by have := depth_dII a; omega)
theorem inV_zero (ns : List Int) : (!inV (.int 0) (ns.map V.int)) = ns.all fun x => !decide (x = 0) := by
  unfold inV
  induction ns with
  | nil => rfl
  | cons n ns ih =>
    rw [List.map_cons, List.any_cons, List.all_cons, ← ih, Bool.not_or]
    congr 1
theorem flat_ints (ns : List Int) : (ns.map V.int).all flatV = true := by
  rw [List.all_eq_true]
  intro v hv
  obtain ⟨n, _, rfl⟩ := List.mem_map.mp hv
  rfl
theorem isSeq_oD (o : Option (List Int)) : isSeq (oD o) = o.isSome := by cases o <;> rfl
section
variable {P : Program} {w : World} {K : PySem.W.Frag} {mg : Str → Option Value} {base : Heap} {C : Addr}
def spIsRow (K : PySem.W.Frag) : Sp := fun vs H Q _ => ∃ (v u : V) (m : Mc) (o : Option (List Int)), vs = [v, u] ∧ MOk K H v m ∧ Dp K H u (oD o) ∧ (∀ ns, o = some ns → ns.length ≤ 100000) ∧ ∀ H', Same H H' → Q (.bl (areC m o)) H'
theorem k_is_row (R : Raw K mg "_law_is_row" s_law_is_row) (B : Bl mg) : Known P w K mg base "_law_is_row" 1 ["_law_m", "_law_row"] (spIsRow K) := by
  refine known R sc_law_is_row (fun _ _ _ _ _ _ us hl => match us, hl with | [_, _], _ => rfl) (fun vs H Q E h => by obtain ⟨_, _, _, _, rfl, _⟩ := h; rfl) (fun f cdv A outer s H vs Q E hr h => ?_)
  obtain ⟨v, u, m, o, rfl, hm, hu, hlen, q⟩ := h
  have nd := sc_law_is_row.nd
  refine ⟨_, pss_cons (ps_if (PW.pt (pw_or (pt_not (pt_val (pe_callB call_isiT (by rfl) B.isi (by decide +kernel) (pa_cons (pv 1) (pa_cons (pe_tup (pa_cons (pe_bltn (v := .ty "list") (by rfl) B.list (by decide +kernel) rfl) (pa_cons (pe_bltn (v := .ty "tuple") (by rfl) B.tuple (by decide +kernel) rfl) pa_nil))) pa_nil)))))
      (pw_or1 (pt_cmpR op_ne (pe_callB call_len_seq (by rfl) B.len PySem.boot_len (pa_cons (pv 1) pa_nil)) (pe_callB call_len_seq (by rfl) B.len PySem.boot_len (pa_cons (pe_ix ix_tup (pv 0) pe_int (fun _ _ => rfl)) pa_nil)) (nomark _))))) (pss_one (ps_ret pe_bl)) pss_nil)
    (pss_one (ps_ret (pe_callB (cr_all rfl) (by rfl) B.all (by decide +kernel) (pa_cons
      (pe_lc (own := [("_law_one", 2)]) (g := gName 2) (tt := tYes) rfl nd (pi_list (pv 1)) (blkOk_by (N := N_law_is_row) (sc := defScope s_law_is_row) (by decide +kernel)) (fun _ _ _ _ _ => pg_name (i := 2) nd rfl (Or.inl rfl)) (fun _ _ _ _ _ => pts_nil)
        (fun _ _ _ _ _ => pe_and (pe_callB (cIsi (K := K)) (by rfl) B.isi (by decide +kernel) (pa_cons (pv 2) (pa_cons (pe_bltn (v := .ty "int") (by rfl) B.int (by decide +kernel) rfl) pa_nil)))
          (pe_and (pe_not (pe_callB (cIsi (K := K)) (by rfl) B.isi (by decide +kernel) (pa_cons (pv 2) (pa_cons (pe_bltn (v := .ty "bool") (by rfl) B.bool (by decide +kernel) rfl) pa_nil))))
          (pe_one (pe_chain op_le op_lt pe_int (pv 2) (pe_ix (ixT (K := K)) (pv 0) pe_int (fun _ _ => rfl))))))) pa_nil)))), ?_⟩
  obtain ⟨a, l, xs, rfl, m1, m2, m3⟩ := dM_un hm.d
  have hxl := rows_len m3
  refine ⟨_, rfl, (by show 2 ≤ sizeLine; decide), fun p hp => ?_⟩
  have e : Same H (upd H p (.tup [.ty "list", .ty "tuple"])) := (Same.refl H).new hp
  have hd' := sm e hu
  refine ⟨u, p, _, _, _, _, rfl, upd_same, cls2 (K := K), dp_ty hd', kit_seq hd', _, rfl, ?_⟩
  generalize upd H p (.tup [.ty "list", .ty "tuple"]) = H1 at *
  cases o with
  | none => exact iteT (iteT (q H1 e))
  | some cs =>
    obtain ⟨c, rfl, hc⟩ := dI_un hd'
    refine iteF ⟨_, rfl, c, _, rfl, .inl hc, _, rfl, a, _, _, _, rfl, rfl, Same.tup e m1, at_of (j := 1) rfl rfl, l, _, rfl, .inl (e.seq m2), rfl, _, rfl, ?_⟩
    have hll : ((cs.map V.int).length : Int) = (cs.length : Int) := by rw [List.length_map]
    rcases Nat.decEq cs.length m.rows.length with hL | hL
    · have e3 : areC m (some cs) = false := by
        show (decide (cs.length = m.rows.length) && _) = _
        rw [decide_eq_false hL, Bool.false_and]
      have := q H1 e
      rw [e3] at this
      refine ifT ?_ this
      show (!decide (V.int ((cs.map V.int).length : Nat) = V.int (xs.length : Nat))) = true
      rw [decide_eq_false (fun e => hL (by injection e with e; omega))]
      rfl
    · refine ifF ?_ ?_
      · show (!decide (V.int ((cs.map V.int).length : Nat) = V.int (xs.length : Nat))) = false
        rw [decide_eq_true (by rw [hll, hL, hxl])]
        rfl
      have hlc := hlen cs rfl
      refine ⟨_, rfl, c, rfl, ⟨_, hc⟩, fun D hD => lc_ys walk_list sameAt hD (by rw [List.length_map]; exact hlc) (cs.map fun i => V.bl (decide (0 ≤ i) && decide (i < (m.p : Int)))) (by simp) (fun H e => e.seq hc)
        (fun i y z H3 H4 hz e2 hy Q' hq => ?_) fun H3 e2 hD2 => ⟨D, cs.map (fun i => decide (0 ≤ i) && decide (i < (m.p : Int))), rfl, SqL.of (by rw [hD2, List.map_map]; rfl), ?_⟩⟩
      · obtain ⟨rfl, hy⟩ := hy
        obtain ⟨n, hn, rfl⟩ := ns_get hz
        rw [List.getElem?_map, hn] at hy
        cases hy
        have hdn : Dp K H4 (.int n) (.int n) := .int n
        refine ⟨rfl, _, rfl, .int n, .ty "int", _, _, _, rfl, .ty _, dp_ty hdn, kit_dp hdn, _, rfl, ifT (by simp [tyN, isaT]) ⟨_, rfl, .int n, .ty "bool", _, _, _, rfl, .ty _, dp_ty hdn, kit_dp hdn, _, rfl, _, rfl, ifT (by simp [tyN, isaT]) ?_⟩⟩
        refine ⟨_, rfl, _, _, rfl, rfl, _, rfl, ?_⟩
        by_cases h0 : (0 : Int) ≤ n
        · rw [decide_eq_true h0, Bool.true_and] at hq
          refine ifT (decide_eq_true h0) ⟨_, rfl, a, _, _, _, rfl, rfl, Same.tup (e.trans e2) m1, at_of (j := 0) rfl rfl, _, _, rfl, rfl, ?_⟩
          exact hq _ (Same.refl _)
        · rw [decide_eq_false h0, Bool.false_and] at hq
          exact ifF (decide_eq_false h0) (hq _ (Same.refl _))
      · have e3 : areC m (some cs) = (cs.map fun i => decide (0 ≤ i) && decide (i < (m.p : Int))).all id := by
          show (decide (cs.length = m.rows.length) && _) = _
          rw [decide_eq_true hL, Bool.true_and, List.all_map]
          rfl
        rw [← e3]
        exact q _ ((e.trans e2).trans hide_same)
structure OArgs (K : PySem.W.Frag) (H : Hp) (v u : V) (m : Mc) (os : List (Option (List Int))) : Prop where
  ok : MOk K H v m
  d : Dp K H u (.list (os.map oD))
  len : os.length ≤ 1000
  row : ∀ ns, some ns ∈ os → ns.length ≤ 100000
theorem OArgs.same {H H' : Hp} {v u : V} {m : Mc} {os : List (Option (List Int))} (h : OArgs K H v u m os) (e : Same H H') : OArgs K H' v u m os := ⟨h.ok.same e, sm e h.d, h.len, h.row⟩
def spLChain (K : PySem.W.Frag) : Sp := fun vs H Q _ => ∃ (v u : V) (m : Mc) (os : List (Option (List Int))), vs = [v, u] ∧ OArgs K H v u m os ∧ ∀ H', Same H H' → Q (.bl (chainL m os)) H'
theorem k_lchain (R : Raw K mg "_law_is_chain" s_law_is_chain) (B : Bl mg) (F1 : Known P w K mg base "_law_is_row" 1 ["_law_m", "_law_row"] (spIsRow K)) (F2 : Known P w K mg base "_law_rows_of" 2 ["_law_m", "_law_many"] (spRowsOf K)) :
    Known P w K mg base "_law_is_chain" 3 ["_law_m", "_law_some"] (spLChain K) := by
  refine known R sc_law_is_chain (fun _ _ _ _ _ _ us hl => match us, hl with | [_, _], _ => rfl) (fun vs H Q E h => by obtain ⟨_, _, _, _, rfl, _⟩ := h; rfl) (fun f cdv A outer s H vs Q E hr h => ?_)
  obtain ⟨v, u, m, os, rfl, h, q⟩ := h
  have nd := sc_law_is_chain.nd
  refine ⟨_, pss_cons (ps_if (PW.pt (pw_or (pt_not (pt_val (pe_callB call_isiT (by rfl) B.isi (by decide +kernel) (pa_cons (pv 1) (pa_cons (pe_tup (pa_cons (pe_bltn (v := .ty "list") (by rfl) B.list (by decide +kernel) rfl) (pa_cons (pe_bltn (v := .ty "tuple") (by rfl) B.tuple (by decide +kernel) rfl) pa_nil))) pa_nil)))))
      (pw_or (pt_cmpR op_eq (pe_callB call_len_seq (by rfl) B.len PySem.boot_len (pa_cons (pv 1) pa_nil)) pe_int (nomark _))
      (pw_or1 (pt_not (pt_val (pe_callB (cr_all rfl) (by rfl) B.all (by decide +kernel) (pa_cons
        (pe_lc (own := [("_law_row", 2)]) (g := gName 2) (tt := tYes) rfl nd (pi_list (pv 1)) (blkOk_by (N := N_law_is_chain) (sc := defScope s_law_is_chain) (by decide +kernel)) (fun _ _ _ _ _ => pg_name (i := 2) nd rfl (Or.inl rfl)) (fun _ _ _ _ _ => pts_nil)
          (fun _ _ _ _ _ => pk (F1.mono (by decide : 1 ≤ 2)) hr (by rfl) (pa_cons (pv 0) (pa_cons (pv 2) pa_nil)))) pa_nil)))))))) (pss_one (ps_ret pe_bl)) pss_nil)
    (pss_one (ps_ret (pe_cmpR (op_eqD hr.units) (pe_lc (own := [("_law_row", 2)]) (g := gName 2) (tt := tYes) rfl nd (pi_list (pv 1)) (blkOk_by (N := N_law_is_chain) (sc := defScope s_law_is_chain) (by decide +kernel)) (fun _ _ _ _ _ => pg_name (i := 2) nd rfl (Or.inl rfl)) (fun _ _ _ _ _ => pts_nil)
        (fun _ _ _ _ _ => pe_callTy (cList (K := K)) (by rfl) B.list (by decide +kernel) (pa_cons (pv 2) pa_nil)))
      (pk F2 hr (by rfl) (pa_cons (pv 0) (pa_cons (pe_callB call_len_seq (by rfl) B.len PySem.boot_len (pa_cons (pv 1) pa_nil)) pa_nil))) (nomark _)))), ?_⟩
  refine ⟨_, rfl, (by show 2 ≤ sizeLine; decide), fun p hp => ?_⟩
  have e1 : Same H (upd H p (.tup [.ty "list", .ty "tuple"])) := (Same.refl H).new hp
  have hd' := sm e1 h.d
  refine ⟨u, p, _, _, _, _, rfl, upd_same, cls2 (K := K), dp_ty hd', kit_seq hd', _, rfl, ?_⟩
  generalize upd H p (.tup [.ty "list", .ty "tuple"]) = H1 at *
  obtain ⟨c, xs, rfl, hc, hda⟩ := dp_list hd'
  have hxl : xs.length = os.length := by rw [dpa_len hda, List.length_map]
  have hlen := h.len
  refine iteF ⟨_, rfl, c, _, rfl, .inl hc, rfl, _, rfl, ?_⟩
  cases hos : os with
  | nil =>
    refine ifT (decide_eq_true (by rw [hxl, hos]; rfl)) (iteT ?_)
    have := q H1 e1
    rw [hos] at this
    exact this
  | cons o0 os0 =>
    have hemp : os.isEmpty = false := by rw [hos]; rfl
    refine ifF (decide_eq_false (fun e => by injection e with e; rw [hxl, hos] at e; simp at e; omega)) ?_
    refine ⟨_, rfl, c, rfl, ⟨_, hc⟩, fun D hD => lc_ys (walk_list (xs := xs)) sameAt hD (by omega) ((os.map (areC m)).map V.bl) (by simp; omega) (fun H e => e.seq hc) (fun i y z H3 H4 hz e hy Q' hq => ?_) fun H2 e2 hD2 => ⟨D, os.map (areC m), rfl, SqL.of hD2, _, rfl, ?_⟩⟩
    · obtain ⟨rfl, hy⟩ := hy
      obtain ⟨b, hb, rfl⟩ := ns_get hz
      rw [List.getElem?_map] at hb
      cases ho : os[i]? with
      | none => rw [ho] at hb; cases hb
      | some o =>
        rw [ho] at hb
        cases hb
        obtain ⟨y', hy', hd⟩ := dpa_get hda (i := i) (d := oD o) (by rw [List.getElem?_map, ho]; rfl)
        rw [hy] at hy'
        cases hy'
        exact ⟨rfl, _, rfl, _, rfl, v, y, m, o, rfl, h.ok.same (e1.trans e), sm e hd, fun ns hn => h.row ns (by rw [← hn]; exact List.mem_of_getElem? ho), fun H5 e5 => hq H5 e5⟩
    · have e12 : Same H1 H2 := e2.trans hide_same
      have e02 := e1.trans e12
      have eall : (os.map (areC m)).all id = os.all (areC m) := by rw [List.all_map]; rfl
      rw [eall]
      have hch : chainL m os = (os.all (areC m) && decide (nums os = rowsOf m os.length)) := by
        unfold chainL
        rw [hemp]
        rfl
      cases ha : os.all (areC m) with
      | false =>
        have := q H2 e02
        rw [hch, ha] at this
        exact iteT this
      | true =>
        refine iteF ?_
        rw [ha, Bool.true_and] at hch
        obtain ⟨rs, rfl⟩ : ∃ rs : List (List Int), os = rs.map some := ⟨nums os, all_some ha⟩
        rw [nums_some, List.length_map] at hch
        have hrl : rs.length ≤ 1000 := by rw [List.length_map] at hlen; exact hlen
        have hxr : xs.length = rs.length := by rw [hxl, List.length_map]
        have hok : ∀ r ∈ rs, areC m (some r) = true := fun r hr => List.all_eq_true.mp ha (some r) (List.mem_map_of_mem hr)
        have hr0 : 1 ≤ rs.length := by
          have := congrArg List.length hos
          rw [List.length_map] at this
          rw [this]
          exact Nat.succ_le_succ (Nat.zero_le _)
        refine ⟨_, rfl, c, rfl, ⟨_, e12.seq hc⟩, fun D1 hD1 => lc_gen (walk_list (xs := xs)) sameAt hD1 (by omega) (fun i v H => ∀ r, rs[i]? = some r → ∃ a, v = .ref a ∧ H a = some (.lst (r.map V.int))) (fun i v H H' e h r hr => by obtain ⟨a, h1, h2⟩ := h r hr; exact ⟨a, h1, e _ _ h2⟩)
          (fun H e => e.seq (e12.seq hc)) (fun i y H3 H4 hi e hDD hy Q' hq => ?_) fun H3 acc e3 hacc hal hR => ?_⟩
        · obtain ⟨rfl, hy⟩ := hy
          obtain ⟨accD, haccD⟩ := hDD
          have hri : rs[i]? = some rs[i] := List.getElem?_eq_getElem (by omega)
          obtain ⟨y', hy', hd⟩ := dpa_get hda (i := i) (d := dI rs[i]) (by rw [List.getElem?_map, List.getElem?_map, hri]; rfl)
          rw [hy] at hy'
          cases hy'
          obtain ⟨a, rfl, hsq⟩ := dI_un hd
          refine ⟨rfl, _, rfl, a, _, rfl, .inl ((e12.trans (e.trans hide_same)).seq hsq), fun l hl => hq _ _ ((Same.refl _).new hl) fun r hr => ?_⟩
          rw [hri] at hr
          cases hr
          refine ⟨l, rfl, ?_⟩
          rw [hide_ne (fun e => by rw [e, haccD] at hl; cases hl), upd_same]
        · have e03 : Same H H3 := e02.trans (e3.trans hide_same)
          have hrows : DpAll K H3 acc (rs.map dI) := dpa_of (by rw [hal, List.length_map]; omega) fun i v d h1 h2 => by
            rw [List.getElem?_map] at h2
            cases hri : rs[i]? with
            | none => rw [hri] at h2; cases h2
            | some r =>
              rw [hri] at h2
              cases h2
              obtain ⟨a, rfl, ha⟩ := hR i v h1 r hri
              exact dI_mk (SqL.of (hide_same _ _ ha))
          refine ⟨_, rfl, _, rfl, c, _, rfl, .inl (((e12.trans (e3.trans hide_same))).seq hc), v, m, xs.length, rfl, h.ok.same e03, by omega, by omega, fun l H4 ys hl4 e4 h4 hda4 => ⟨.list (rs.map dI), .list ((rowsOf m xs.length).map dI), .lst (SqL.of (e4 _ _ hacc)) (sma e4 hrows), .lst (SqL.of h4) (sma nw_same hda4), shaped_dII _, shaped_dII _, ?_⟩⟩
          rw [eqv_dII]
          have := q H4 (e03.trans e4)
          rw [hch, ← hxr] at this
          exact this
def spLSingle (K : PySem.W.Frag) : Sp := fun vs H Q _ => ∃ (v u x : V) (m : Mc) (os : List (Option (List Int))) (bk : Bk), vs = [v, u, x] ∧ OArgs K H v u m os ∧ Dp K H x bk.d ∧ ∀ H', Same H H' → Q (.bl (jSingle m os bk)) H'
theorem k_lsingle (R : Raw K mg "_law_single_holds" s_law_single_holds) (B : Bl mg) (F1 : Known P w K mg base "_law_is_chain" 3 ["_law_m", "_law_some"] (spLChain K)) (F2 : Known P w K mg base "_law_later" 1 ["_law_m", "_law_row"] (spLater K)) (F3 : Known P w K mg base "_law_sum" 1 ["_law_m", "_law_row"] (spSum K)) :
    Known P w K mg base "_law_single_holds" 4 ["_law_m", "_law_some", "_law_back_z"] (spLSingle K) := by
  refine known R sc_law_single_holds (fun _ _ _ _ _ _ us hl => match us, hl with | [_, _, _], _ => rfl) (fun vs H Q E h => by obtain ⟨_, _, _, _, _, _, rfl, _⟩ := h; rfl) (fun f cdv A outer s H vs Q E hr h => ?_)
  obtain ⟨v, u, x, m, os, bk, rfl, h, hx, q⟩ := h
  have nd := sc_law_single_holds.nd
  refine ⟨_, pss_cons (ps_if (PW.pt (pw_or (pt_not (pt_val (pk F1 hr (by rfl) (pa_cons (pv 0) (pa_cons (pv 1) pa_nil)))))
      (pw_or (pt_not (pt_val (pe_callB call_isi (by rfl) B.isi (by decide +kernel) (pa_cons (pv 2) (pa_cons (pe_bltn (v := .ty "int") (by rfl) B.int (by decide +kernel) rfl) pa_nil)))))
      (pw_or (pt_val (pe_callB call_isi (by rfl) B.isi (by decide +kernel) (pa_cons (pv 2) (pa_cons (pe_bltn (v := .ty "bool") (by rfl) B.bool (by decide +kernel) rfl) pa_nil))))
      (pw_or1 (pt_not (pt_chain op_le op_lt pe_int (pv 2) (pe_callB call_len_seq (by rfl) B.len PySem.boot_len (pa_cons (pv 1) pa_nil))))))))) (pss_one (ps_ret pe_bl)) pss_nil)
    (pss_one (ps_ret (pe_and (pe_cmpR (op_eqD hr.units) (pk (F2.mono (by decide : 1 ≤ 3)) hr (by rfl) (pa_cons (pv 0) (pa_cons (pe_callTy call_list_of (by rfl) B.list (by decide +kernel) (pa_cons (pe_ix ix_list (pv 1) (pe_un un_neg pe_int) (fun _ _ => rfl)) pa_nil)) pa_nil)))
        (pe_callTy call_list_of (by rfl) B.list (by decide +kernel) (pa_cons (pe_ix ix_list (pv 1) (pv 2) (fun _ _ => rfl)) pa_nil)) (nomark _))
      (pe_one (pe_cmpR op_notIn_seq pe_int (pe_lc (own := [("_law_row", 3)]) (g := gName 3) (tt := tYes) rfl nd (pi_list (pv 1)) (blkOk_by (N := N_law_single_holds) (sc := defScope s_law_single_holds) (by decide +kernel)) (fun _ _ _ _ _ => pg_name (i := 3) nd rfl (Or.inl rfl)) (fun _ _ _ _ _ => pts_nil)
        (fun _ _ _ _ _ => pk (F3.mono (by decide : 1 ≤ 3)) hr (by rfl) (pa_cons (pv 0) (pa_cons (pv 3) pa_nil)))) (by rfl)))))), ?_⟩
  have hj : jSingle m os bk = (chainL m os && (within bk os.length && (decide (cNext m (lastR (nums os)) = atB bk (nums os)) && ((nums os).map (cTot m)).all fun x => !decide (x = 0)))) := rfl
  refine ⟨_, rfl, _, rfl, v, u, m, os, rfl, h, fun H1 e1 => ⟨_, rfl, ?_⟩⟩
  cases hc : chainL m os with
  | false =>
    have := q H1 e1
    rw [hj, hc] at this
    exact iteT (iteT this)
  | true =>
  rw [hj, hc, Bool.true_and] at q
  have hx1 := sm e1 hx
  obtain ⟨c, xs, rfl, hsc, hda⟩ := dp_list (sm e1 h.d)
  have hxl : xs.length = os.length := by rw [dpa_len hda, List.length_map]
  refine iteF ⟨_, rfl, x, .ty "int", _, _, _, rfl, .ty _, dp_ty hx1, kit_dp hx1, _, rfl, ?_⟩
  cases bk with
  | non => exact ifT (by simp [Bk.d, tyN, isaT]) (iteT (q H1 e1))
  | bl b =>
    refine ifF (by simp [Bk.d, tyN, isaT]) ⟨_, rfl, x, .ty "bool", _, _, _, rfl, .ty _, dp_ty hx1, kit_dp hx1, _, rfl, ifT (by simp [Bk.d, tyN, isaT]) (iteT (q H1 e1))⟩
  | num i =>
    have hxi := dp_int (show Dp K H1 x (.int i) from hx1)
    subst hxi
    refine ifF (by simp [Bk.d, tyN, isaT]) ⟨_, rfl, .int i, .ty "bool", _, _, _, rfl, .ty _, dp_ty hx1, kit_dp hx1, _, rfl, ifF (by simp [Bk.d, tyN, isaT]) ⟨_, rfl, _, _, rfl, rfl, _, rfl, ?_⟩⟩
    have hwi : within (.num i) os.length = (decide (0 ≤ i) && decide (i < (os.length : Int))) := rfl
    by_cases h0 : (0 : Int) ≤ i
    · obtain ⟨j, rfl⟩ := Int.eq_ofNat_of_zero_le h0
      refine ifT (decide_eq_true h0) ⟨_, rfl, c, _, rfl, .inl hsc, _, _, rfl, rfl, _, rfl, ?_⟩
      rw [hxl]
      by_cases h1 : (j : Int) < (os.length : Int)
      · have hw : within (.num (j : Int)) os.length = true := by rw [hwi, decide_eq_true h0, decide_eq_true h1]; rfl
        rw [hw, Bool.true_and] at q
        refine ifF (by rw [decide_eq_true h1]; rfl) ?_
        obtain ⟨hne, hall⟩ : os ≠ [] ∧ os.all (areC m) = true := by
          unfold chainL at hc
          rw [Bool.and_eq_true, Bool.and_eq_true] at hc
          refine ⟨fun e => ?_, hc.2.1⟩
          rw [e] at hc
          exact Bool.false_ne_true hc.1
        obtain ⟨rs, rfl⟩ : ∃ rs : List (List Int), os = rs.map some := ⟨nums os, all_some hall⟩
        rw [nums_some] at q
        rw [List.length_map] at hxl h1
        have hpos : 0 < rs.length := by omega
        have hok : ∀ r ∈ rs, areC m (some r) = true := fun r hr => List.all_eq_true.mp hall (some r) (List.mem_map_of_mem hr)
        have hat : ∀ {i : Nat} {r}, rs[i]? = some r → ∃ b, xs[i]? = some (.ref b) ∧ SqL K H1 b (r.map V.int) := fun {i r} hr => by
          obtain ⟨y, hy, hd⟩ := dpa_get hda (i := i) (d := dI r) (by rw [List.getElem?_map, List.getElem?_map, hr]; rfl)
          obtain ⟨b, rfl, hb⟩ := dI_un hd
          exact ⟨b, hy, hb⟩
        obtain ⟨rl, hrl⟩ : ∃ r, rs[rs.length - 1]? = some r := ⟨_, List.getElem?_eq_getElem (by omega)⟩
        obtain ⟨rb, hrb⟩ : ∃ r, rs[j]? = some r := ⟨_, List.getElem?_eq_getElem (by omega)⟩
        have hlast : lastR rs = rl := by
          unfold lastR
          rw [List.getD_eq_getElem?_getD, hrl]
          rfl
        have hatb : atB (.num (j : Int)) rs = rb := by
          show rs.getD ((j : Nat) : Int).toNat [] = rb
          rw [Int.toNat_natCast, List.getD_eq_getElem?_getD, hrb]
          rfl
        rw [hlast, hatb] at q
        obtain ⟨bl, l1, l2⟩ := hat hrl
        obtain ⟨bb, b1, b2⟩ := hat hrb
        refine ⟨_, rfl, _, rfl, _, rfl, c, xs, _, .ref bl, rfl, rfl, hsc, atI_neg1 (by rw [hxl]; exact l1), bl, _, rfl, .inl l2, fun l hl => ?_⟩
        have e2 : Same H1 (upd H1 l (.lst (rl.map V.int))) := (Same.refl H1).new hl
        refine ⟨v, .ref l, m, rl, rfl, ⟨h.ok.same (e1.trans e2), dI_mk (SqL.of upd_same), areC_len (hok rl (List.mem_of_getElem? hrl))⟩, fun ln H3 hln e3 hH3 => ?_⟩
        have e13 := e2.trans e3
        refine ⟨_, rfl, _, rfl, c, xs, _, .ref bb, rfl, rfl, e13.seq hsc, at_of (j := j) rfl b1, bb, _, rfl, .inl (e13.seq b2), fun l' hl' => ?_⟩
        have e4 : Same H3 (upd H3 l' (.lst (rb.map V.int))) := (Same.refl H3).new hl'
        refine ⟨dI (cNext m rl), dI rb, dI_mk (SqL.of (e4 _ _ hH3)), dI_mk (SqL.of upd_same), shaped_dI _, shaped_dI _, _, rfl, ?_⟩
        rw [eqv_dI]
        have e14 := e13.trans e4
        generalize upd H3 l' (.lst (rb.map V.int)) = H4 at *
        have e04 := e1.trans e14
        cases hd : decide (cNext m rl = rb) with
        | false =>
          have := q H4 e04
          rw [hd] at this
          exact iteF this
        | true =>
          rw [hd, Bool.true_and] at q
          have hrow := h.len
          rw [List.length_map] at hrow
          refine iteT ⟨_, rfl, c, rfl, ⟨_, e14.seq hsc⟩, fun D hD => lc_ys (walk_list (xs := xs)) sameAt hD (by omega) ((rs.map (cTot m)).map V.int) (by simp; omega) (fun H e => e.seq (e14.seq hsc)) (fun i y z H5 H6 hz e hy Q' hq => ?_) fun H5 e5 hD5 => ⟨D, _, rfl, .inl (SqL.of hD5), rfl, flat_ints _, ?_⟩⟩
          · obtain ⟨rfl, hy⟩ := hy
            obtain ⟨k, hk, rfl⟩ := ns_get hz
            rw [List.getElem?_map] at hk
            obtain ⟨r, hr0, rfl⟩ : ∃ r, rs[i]? = some r ∧ k = cTot m r := by
              cases e : rs[i]? with
              | none => rw [e] at hk; cases hk
              | some r => rw [e] at hk; exact ⟨r, rfl, (Option.some.inj hk).symm⟩
            obtain ⟨b, c1, c2⟩ := hat hr0
            have hyy : some y = some (V.ref b) := hy.symm.trans c1
            cases hyy
            exact ⟨rfl, _, rfl, _, rfl, v, _, m, r, rfl, ⟨h.ok.same (e04.trans e), dI_mk ((e14.trans e).seq c2), areC_len (hok r (List.mem_of_getElem? hr0))⟩, fun H' e' => hq H' e'⟩
          · have := q H5 (e04.trans (e5.trans hide_same))
            rw [← inV_zero] at this
            exact this
      · have hw : within (.num (j : Int)) os.length = false := by rw [hwi, decide_eq_false h1, Bool.and_false]
        have := q H1 e1
        rw [hw] at this
        refine ifT (by rw [decide_eq_false h1]; rfl) this
    · have hw : within (.num i) os.length = false := by rw [hwi, decide_eq_false h0, Bool.false_and]
      have := q H1 e1
      rw [hw] at this
      exact ifF (decide_eq_false h0) ⟨_, rfl, iteT this⟩
def spLMatch (K : PySem.W.Frag) : Sp := fun vs H Q _ => ∃ (u v x y : V) (m n : Mc) (s : Sm) (bk : Bk), vs = [u, v, x, y] ∧ MOk K H u m ∧ MOk K H v n ∧ Dp K H x s.d ∧ s.ok ∧ Dp K H y bk.d ∧ ∀ H', Same H H' → Q (.bl (hL m n s bk)) H'
theorem k_lmatch (R : Raw K mg "_law_match_holds" s_law_match_holds) (B : Bl mg) (F1 : Known P w K mg base "_law_single_holds" 4 ["_law_m", "_law_some", "_law_back_z"] (spLSingle K)) (F2 : Known P w K mg base "_law_sum" 1 ["_law_m", "_law_row"] (spSum K)) :
    Known P w K mg base "_law_match_holds" 5 ["_law_m", "_law_n", "_law_some", "_law_back_z"] (spLMatch K) := by
  refine known R sc_law_match_holds (fun _ _ _ _ _ _ us hl => match us, hl with | [_, _, _, _], _ => rfl) (fun vs H Q E h => by obtain ⟨_, _, _, _, _, _, _, _, rfl, _⟩ := h; rfl) (fun f cdv A outer s0 H vs Q E hr h => ?_)
  obtain ⟨u, v, x, y, m, n, s, bk, rfl, hm, hn, hx, hok, hy, q⟩ := h
  have nd := sc_law_match_holds.nd
  refine ⟨_, pss_cons (ps_if (PW.pt (pw_or (pt_not (pt_val (pe_callB call_isi (by rfl) B.isi (by decide +kernel) (pa_cons (pv 2) (pa_cons (pe_bltn (v := .ty "list") (by rfl) B.list (by decide +kernel) rfl) pa_nil)))))
      (pw_or1 (pt_not (pt_val (pe_callB (cr_all rfl) (by rfl) B.all (by decide +kernel) (pa_cons
        (pe_lc (own := [("_law_pair", 6)]) (g := gName 6) (tt := tYes) rfl nd (pi_list (pv 2)) (blkOk_by (N := N_law_match_holds) (sc := defScope s_law_match_holds) (by decide +kernel)) (fun _ _ _ _ _ => pg_name (i := 6) nd rfl (Or.inl rfl)) (fun _ _ _ _ _ => pts_nil)
          (fun _ _ _ _ _ => pe_and (pe_callB (cIsi (K := K)) (by rfl) B.isi (by decide +kernel) (pa_cons (pv 6) (pa_cons (pe_bltn (v := .ty "tuple") (by rfl) B.tuple (by decide +kernel) rfl) pa_nil)))
            (pe_one (pe_cmpR op_eq (pe_callB (cLen (K := K)) (by rfl) B.len PySem.boot_len (pa_cons (pv 6) pa_nil)) pe_int (nomark _))))) pa_nil))))))) (pss_one (ps_ret pe_bl)) pss_nil)
    (pss_cons (ps_par (i := 4) (j := 5) (by rfl) nd rfl rfl (by decide) rfl rfl (pa_cons
        (pe_lc (own := [("_law_pair", 6)]) (g := gName 6) (tt := tYes) rfl nd (pi_list (pv 2)) (blkOk_by (N := N_law_match_holds) (sc := defScope s_law_match_holds) (by decide +kernel)) (fun _ _ _ _ _ => pg_name (i := 6) nd rfl (Or.inl rfl)) (fun _ _ _ _ _ => pts_nil)
          (fun _ _ _ _ _ => pe_ix (ixT (K := K)) (pv 6) pe_int (fun _ _ => rfl))) (pa_cons
        (pe_lc (own := [("_law_pair", 6)]) (g := gName 6) (tt := tYes) rfl nd (pi_list (pv 2)) (blkOk_by (N := N_law_match_holds) (sc := defScope s_law_match_holds) (by decide +kernel)) (fun _ _ _ _ _ => pg_name (i := 6) nd rfl (Or.inl rfl)) (fun _ _ _ _ _ => pts_nil)
          (fun _ _ _ _ _ => pe_ix (ixT (K := K)) (pv 6) pe_int (fun _ _ => rfl))) pa_nil)) (by rfl))
    (pss_cons (ps_if (PW.pt (pw_or (pt_not (pt_val (pk F1 hr (by rfl) (pa_cons (pv 0) (pa_cons (pv 4) (pa_cons (pv 3) pa_nil))))))
      (pw_or1 (pt_not (pt_val (pk F1 hr (by rfl) (pa_cons (pv 1) (pa_cons (pv 5) (pa_cons (pv 3) pa_nil))))))))) (pss_one (ps_ret pe_bl)) pss_nil)
    (pss_one (ps_ret (pe_cmpR (op_eqD hr.units)
      (pe_lc (own := [("_law_row", 7)]) (g := gName 7) (tt := tYes) rfl nd (pi_list (pv 4)) (blkOk_by (N := N_law_match_holds) (sc := defScope s_law_match_holds) (by decide +kernel)) (fun _ _ _ _ _ => pg_name (i := 7) nd rfl (Or.inl rfl)) (fun _ _ _ _ _ => pts_nil)
        (fun _ _ _ _ _ => pk (F2.mono (by decide : 1 ≤ 4)) hr (by rfl) (pa_cons (pv 0) (pa_cons (pv 7) pa_nil))))
      (pe_lc (own := [("_law_row", 7)]) (g := gName 7) (tt := tYes) rfl nd (pi_list (pv 5)) (blkOk_by (N := N_law_match_holds) (sc := defScope s_law_match_holds) (by decide +kernel)) (fun _ _ _ _ _ => pg_name (i := 7) nd rfl (Or.inl rfl)) (fun _ _ _ _ _ => pts_nil)
        (fun _ _ _ _ _ => pk (F2.mono (by decide : 1 ≤ 4)) hr (by rfl) (pa_cons (pv 1) (pa_cons (pv 7) pa_nil)))) (nomark _)))))), ?_⟩
  refine ⟨_, rfl, x, .ty "list", _, _, _, rfl, .ty _, dp_ty hx, kit_dp hx, _, rfl, ?_⟩
  cases s with
  | non => exact ifT (by simp [Sm.d, tyN, isaT]) (iteT (q H (Same.refl _)))
  | three => exact ifT (by simp [Sm.d, tyN, isaT]) (iteT (q H (Same.refl _)))
  | tup is => exact ifT (by simp [Sm.d, tyN, isaT]) (iteT (q H (Same.refl _)))
  | lst is =>
  refine ifF (by simp [Sm.d, tyN, isaT]) ?_
  obtain ⟨a, xs, rfl, hA, hda⟩ := dp_list hx
  have hlen := hok.1
  have hoks := hok.2
  have hxl : xs.length = is.length := by rw [dpa_len hda, List.length_map]
  refine ⟨_, rfl, a, rfl, ⟨_, hA⟩, fun D hD => lc_ys (walk_list (xs := xs)) sameAt hD (by omega) ((is.map Itm.isP).map V.bl) (by simp; omega) (fun H e => e.seq hA) (fun i y z H3 H4 hz e hy Q' hq => ?_) fun H1 e1' hD1 => ⟨D, is.map Itm.isP, rfl, SqL.of hD1, _, rfl, ?_⟩⟩
  · obtain ⟨rfl, hy⟩ := hy
    obtain ⟨b, hb, rfl⟩ := ns_get hz
    rw [List.getElem?_map] at hb
    cases ho : is[i]? with
    | none => rw [ho] at hb; cases hb
    | some it =>
      rw [ho] at hb
      cases hb
      obtain ⟨y', hy', hd⟩ := dpa_get hda (i := i) (d := it.d) (by rw [List.getElem?_map, ho]; rfl)
      rw [hy] at hy'
      cases hy'
      have hd3 := sm e hd
      refine ⟨rfl, _, rfl, y, .ty "tuple", _, _, _, rfl, .ty _, dp_ty hd3, kit_dp hd3, _, rfl, ?_⟩
      rcases itm_isP hd3 with ⟨k1, k2⟩ | ⟨a', x', xs', rfl, k1, k2, k3⟩
      · rw [k1]
        rw [k2] at hq
        exact iteF (hq _ (Same.refl _))
      · rw [k2]
        rw [← k3] at hq
        exact iteT ⟨_, rfl, a', _, rfl, .inr k1, rfl, hq _ (Same.refl _)⟩
  have e1 : Same H H1 := e1'.trans hide_same
  have eall : (is.map Itm.isP).all id = is.all Itm.isP := by rw [List.all_map]; rfl
  rw [eall]
  have hh : hL m n (.lst is) bk = (is.all Itm.isP && holdsL m n (prsI is) bk) := rfl
  rw [hh] at q
  cases hall : is.all Itm.isP with
  | false =>
    have := q H1 e1
    rw [hall] at this
    exact iteT this
  | true =>
  rw [hall, Bool.true_and] at q
  refine iteF ?_
  have his := all_mkP hall
  generalize prsI is = ps at *
  subst his
  clear hh eall hall
  have hpl : ps.length ≤ 1000 := by rw [List.length_map] at hlen; exact hlen
  have hxp : xs.length = ps.length := by rw [hxl, List.length_map]
  have hat : ∀ {i : Nat} {y : V}, xs[i]? = some y → ∃ p b u v, ps[i]? = some p ∧ y = .ref b ∧ SqT K H b [u, v] ∧ Dp K H u (dI p.1) ∧ Dp K H v (oD p.2) := by
    intro i y hy
    have hi : i < ps.length := by rw [← hxp]; exact (List.getElem?_eq_some_iff.mp hy).1
    obtain ⟨y', hy', hd⟩ := dpa_get hda (i := i) (d := (mkP ps[i]).d) (by rw [List.getElem?_map, List.getElem?_map, List.getElem?_eq_getElem hi]; rfl)
    rw [hy] at hy'
    cases hy'
    obtain ⟨b, u, v, k0, k1, k2, k3⟩ := dp2 hd
    exact ⟨_, b, u, v, List.getElem?_eq_getElem hi, k0, k1, k2, k3⟩
  have hpok : ∀ p ∈ ps, p.1.length ≤ 100000 ∧ ∀ b, p.2 = some b → b.length ≤ 100000 := fun p hp => hoks (mkP p) (List.mem_map_of_mem hp)
  refine ⟨_, rfl, a, rfl, ⟨_, e1.seq hA⟩, fun D1 hD1 => lc_gen (walk_list (xs := xs)) sameAt hD1 (by omega) (fun i v H => ∀ p, ps[i]? = some p → Dp K H v (dI p.1)) (fun i v H H' e h p hp => sm e (h p hp)) (fun H e => e.seq (e1.seq hA)) (fun i y H3 H4 hi e hDD hy Q' hq => ?_) fun H3 acc e3' hacc hal hR => ?_⟩
  · obtain ⟨rfl, hy⟩ := hy
    obtain ⟨p, b, u, v, k1, rfl, k3, k4, k5⟩ := hat hy
    refine ⟨rfl, _, rfl, b, _, _, _, rfl, rfl, Same.tup ((e1.trans e).trans hide_same) k3, at_of (j := 0) rfl rfl, hq _ _ (Same.refl _) fun p' hp' => ?_⟩
    rw [k1] at hp'
    cases hp'
    exact sm (e1.trans e) k4
  have e3 := e1.trans (e3'.trans hide_same)
  refine ⟨_, rfl, a, rfl, ⟨_, e3.seq hA⟩, fun D2 hD2 => lc_gen (walk_list (xs := xs)) sameAt hD2 (by omega) (fun i v H => ∀ p, ps[i]? = some p → Dp K H v (oD p.2)) (fun i v H H' e h p hp => sm e (h p hp)) (fun H e => e.seq (e3.seq hA)) (fun i y H5 H6 hi e hDD hy Q' hq => ?_) fun H5 acc2 e5' hacc2 hal2 hR2 => ⟨_, _, rfl, ?_⟩⟩
  · obtain ⟨rfl, hy⟩ := hy
    obtain ⟨p, b, u, v, k1, rfl, k3, k4, k5⟩ := hat hy
    refine ⟨rfl, _, rfl, b, _, _, _, rfl, rfl, Same.tup ((e3.trans e).trans hide_same) k3, at_of (j := 1) rfl rfl, hq _ _ (Same.refl _) fun p' hp' => ?_⟩
    rw [k1] at hp'
    cases hp'
    exact sm (e3.trans e) k5
  have e35 : Same H3 H5 := e5'.trans hide_same
  have e5 := e3.trans e35
  have hacc5 := e35 _ _ hacc
  have hA3 : DpAll K H5 acc ((fsts ps).map oD) := dpa_of (by rw [hal, List.length_map, fsts, List.length_map]; omega) fun i v d h1 h2 => by
    rw [List.getElem?_map, fsts, List.getElem?_map] at h2
    cases hi : ps[i]? with
    | none => rw [hi] at h2; cases h2
    | some p =>
      rw [hi] at h2
      cases h2
      exact sm (hide_same.trans e35) (hR i v h1 p hi)
  have hA5 : DpAll K H5 acc2 ((snds ps).map oD) := dpa_of (by rw [hal2, List.length_map, snds, List.length_map]; omega) fun i v d h1 h2 => by
    rw [List.getElem?_map, snds, List.getElem?_map] at h2
    cases hi : ps[i]? with
    | none => rw [hi] at h2; cases h2
    | some p =>
      rw [hi] at h2
      cases h2
      exact sm hide_same (hR2 i v h1 p hi)
  have oa : OArgs K H5 u (.ref D1) m (fsts ps) := ⟨hm.same e5, .lst (SqL.of hacc5) hA3, by rw [fsts, List.length_map]; exact hpl, fun ns hns => by
    obtain ⟨p, hp, e⟩ := List.mem_map.mp hns
    cases e
    exact (hpok p hp).1⟩
  have ob : OArgs K H5 v (.ref D2) n (snds ps) := ⟨hn.same e5, .lst (SqL.of hacc2) hA5, by rw [snds, List.length_map]; exact hpl, fun ns hns => by
    obtain ⟨p, hp, e⟩ := List.mem_map.mp hns
    exact (hpok p hp).2 _ e⟩
  have hj : holdsL m n ps bk = (jSingle m (fsts ps) bk && (jSingle n (snds ps) bk && decide ((nums (fsts ps)).map (cTot m) = (nums (snds ps)).map (cTot n)))) := rfl
  rw [hj] at q
  refine ⟨_, rfl, _, rfl, _, rfl, u, _, y, m, fsts ps, bk, rfl, oa, sm e5 hy, fun H6 e6 => ⟨_, rfl, ?_⟩⟩
  cases hj1 : jSingle m (fsts ps) bk with
  | false =>
    have := q H6 (e5.trans e6)
    rw [hj1] at this
    exact iteT (iteT this)
  | true =>
  rw [hj1, Bool.true_and] at q
  refine iteF ⟨_, rfl, _, rfl, _, rfl, v, _, y, n, snds ps, bk, rfl, ob.same e6, sm (e5.trans e6) hy, fun H7 e7 => ⟨_, rfl, ?_⟩⟩
  have e57 := e6.trans e7
  have e07 := e5.trans e57
  cases hj2 : jSingle n (snds ps) bk with
  | false =>
    have := q H7 e07
    rw [hj2] at this
    exact iteT this
  | true =>
  rw [hj2, Bool.true_and] at q
  refine iteF ?_
  have allOf : ∀ {m : Mc} {os : List (Option (List Int))}, jSingle m os bk = true → os.all (areC m) = true := by
    intro m os h
    unfold jSingle chainL at h
    rw [Bool.and_eq_true, Bool.and_eq_true, Bool.and_eq_true] at h
    exact h.1.2.1
  have sums : ∀ {v : V} {m : Mc} {os : List (Option (List Int))} {ac : List V} {D : Addr} {Hc : Hp}, jSingle m os bk = true → MOk K H5 v m → H5 D = some (.lst ac) → DpAll K H5 ac (os.map oD) → Same H5 Hc → ∀ {Hd He : Hp} {i : Nat} {y z : V}, Same Hc Hd → (((nums os).map (cTot m)).map V.int)[i]? = some z → ac[i]? = some y →
      ∃ r, RArgs K Hd v y m r ∧ z = .int (cTot m r) := by
    intro v m os ac D Hc hj hm hD hda ec Hd He i y z e hz hy
    obtain ⟨rs, rfl⟩ : ∃ rs : List (List Int), os = rs.map some := ⟨nums os, all_some (allOf hj)⟩
    rw [nums_some] at hz
    obtain ⟨k, hk, rfl⟩ := ns_get hz
    rw [List.getElem?_map] at hk
    obtain ⟨r, hr0, rfl⟩ : ∃ r, rs[i]? = some r ∧ k = cTot m r := by
      cases e : rs[i]? with
      | none => rw [e] at hk; cases hk
      | some r => rw [e] at hk; exact ⟨r, rfl, (Option.some.inj hk).symm⟩
    obtain ⟨y', hy', hd⟩ := dpa_get hda (i := i) (d := dI r) (by rw [List.getElem?_map, List.getElem?_map, hr0]; rfl)
    have hyy : some y = some y' := hy.symm.trans hy'
    cases hyy
    exact ⟨r, ⟨hm.same (ec.trans e), sm (ec.trans e) hd, areC_len (List.all_eq_true.mp (allOf hj) (some r) (List.mem_map_of_mem (List.mem_of_getElem? hr0)))⟩, rfl⟩
  have ln1 : (nums (fsts ps)).length = ps.length := by rw [nums_length (allOf hj1), fsts, List.length_map]
  have ln2 : (nums (snds ps)).length = ps.length := by rw [nums_length (allOf hj2), snds, List.length_map]
  refine ⟨_, rfl, D1, rfl, ⟨_, SqL.of (e57 _ _ hacc5)⟩, fun D3 hD3 => lc_ys (walk_list (xs := acc)) sameAt hD3 (by omega) (((nums (fsts ps)).map (cTot m)).map V.int) (by rw [List.length_map, List.length_map]; omega) (fun H e => e.seq (SqL.of (e57 _ _ hacc5))) (fun i y z H8 H9 hz e hy Q' hq => ?_) fun H8 e8' hD8 => ?_⟩
  · obtain ⟨rfl, hy⟩ := hy
    obtain ⟨r, ra, rfl⟩ := sums (He := H9) hj1 (hm.same e5) hacc5 hA3 e57 e hz hy
    exact ⟨rfl, _, rfl, _, rfl, u, _, m, r, rfl, ra, fun H' e' => hq H' e'⟩
  have e78 := e8'.trans hide_same
  have e58 := e57.trans e78
  refine ⟨_, rfl, D2, rfl, ⟨_, SqL.of (e58 _ _ hacc2)⟩, fun D4 hD4 => lc_ys (walk_list (xs := acc2)) sameAt hD4 (by omega) (((nums (snds ps)).map (cTot n)).map V.int) (by rw [List.length_map, List.length_map]; omega) (fun H e => e.seq (SqL.of (e58 _ _ hacc2))) (fun i y z Ha Hb hz e hy Q' hq => ?_) fun Ha ea' hDa => ?_⟩
  · obtain ⟨rfl, hy⟩ := hy
    obtain ⟨r, ra, rfl⟩ := sums (He := Hb) hj2 (hn.same e5) hacc2 hA5 e58 e hz hy
    exact ⟨rfl, _, rfl, _, rfl, v, _, n, r, rfl, ra, fun H' e' => hq H' e'⟩
  have e8a := ea'.trans hide_same
  refine ⟨dI _, dI _, dI_mk (SqL.of (e8a _ _ hD8)), dI_mk (SqL.of hDa), shaped_dI _, shaped_dI _, ?_⟩
  rw [eqv_dI]
  exact q Ha (e07.trans (e78.trans e8a))
end
end L2.K55
namespace L2.K55
open PySem PySem.Spec PyProof.Rows
theorem walk_zipT {K : PySem.W.Frag} {a b : Addr} {xs ys : List V} {n : Nat} (hn : n = min xs.length ys.length) : Walk (RZ.ItzT K a b) n (fun H => SqT K H a xs ∧ SqT K H b ys) (YPair (fun i => xs[i]?) (fun i => ys[i]?)) := by
  constructor
  · intro i H hi q
    have a1 : i < xs.length := by omega
    have a2 : i < ys.length := by omega
    exact ⟨xs, ys, _, _, q.1, q.2, List.getElem?_eq_getElem a1, List.getElem?_eq_getElem a2⟩
  · intro H q
    exact ⟨xs, ys, q.1, q.2, by omega⟩
  · rintro i H v H' hi q ⟨T, x, z, e1, e2, e3, e4, e5⟩
    exact ⟨T, x, z, e1, e2, e3, e4 _ q.1, e5 _ q.2⟩
theorem leaf_same {K : PySem.W.Frag} {H : Hp} {u v : V} {d : PyData} (h1 : Dp K H u d) (h2 : Dp K H v d) (hl : isSeq d = false) : u = v := by
  cases h1 with
  | non => cases h2; rfl
  | bl b => cases h2; rfl
  | int i => cases h2; rfl
  | str x => cases h2; rfl
  | lst _ _ => cases hl
  | tup _ _ => cases hl
section
variable {P : Program} {w : World} {K : PySem.W.Frag} {mg : Str → Option Value} {base : Heap} {C : Addr}
def spSame (K : PySem.W.Frag) (n : Nat) : Sp := fun vs H Q _ => ∃ (u v : V) (d : PyData), vs = [u, v] ∧ Dp K H u d ∧ Dp K H v d ∧ wid d = true ∧ d.depth ≤ n ∧ ∀ H', Same H H' → Q (.bl true) H'
theorem same_leaf (R : Raw K mg "_law_same" s_law_same) (B : Bl mg) {k : Nat} {u v : V} {d : PyData} {f : Addr} {cdv : Value} {A : Around} {outer : List Env} {s : Shared} {H : Hp} {Q : VK} {E : XK} (hr : Room k (A.deeper (envOfC "_law_same" (defScope s_law_same) s.heap.objs.size f cdv)))
    (h1 : Dp K H u d) (h2 : Dp K H v d) (hl : isSeq d = false) (q : ∀ H', Same H H' → Q (.bl true) H') :
    ∃ t, PSs (cxOf CX0 P w K mg base N_law_same "_law_same" (defScope s_law_same) f cdv A outer s H E).nox (defBody s_law_same) t ∧ t { nx := fun _ H' => Q .non H', rt := Q } (start N_law_same [u, v]) H := by
  have hu := hr.units
  refine ⟨_, pss_cons (ps_if (pt_val (pe_callB call_isiT (by rfl) B.isi (by decide +kernel) (pa_cons (pv 1) (pa_cons (pe_tup (pa_cons (pe_bltn (v := .ty "list") (by rfl) B.list (by decide +kernel) rfl) (pa_cons (pe_bltn (v := .ty "tuple") (by rfl) B.tuple (by decide +kernel) rfl) pa_nil))) pa_nil)))) pss_never pss_nil)
    (pss_cons (ps_if (PW.pt (pw_or (pt_cmpR op_isN (pv 1) pe_non (nomark _)) (pw_or1 (pt_cmpR op_isN (pv 0) pe_non (nomark _))))) (pss_one (ps_ret (pe_and (pe_cmpR op_isN (pv 1) pe_non (nomark _)) (pe_one (pe_cmpR op_isN (pv 0) pe_non (nomark _)))))) pss_nil)
    (pss_cons (ps_if (PW.pt (pw_or (pt_cmpR op_ne (pe_callB call_isi (by rfl) B.isi (by decide +kernel) (pa_cons (pv 1) (pa_cons (pe_bltn (v := .ty "bool") (by rfl) B.bool (by decide +kernel) rfl) pa_nil))) (pe_callB call_isi (by rfl) B.isi (by decide +kernel) (pa_cons (pv 0) (pa_cons (pe_bltn (v := .ty "bool") (by rfl) B.bool (by decide +kernel) rfl) pa_nil))) (nomark _))
      (pw_or1 (pt_cmpR op_ne (pe_callB call_isi (by rfl) B.isi (by decide +kernel) (pa_cons (pv 1) (pa_cons (pe_bltn (v := .ty "int") (by rfl) B.int (by decide +kernel) rfl) pa_nil))) (pe_callB call_isi (by rfl) B.isi (by decide +kernel) (pa_cons (pv 0) (pa_cons (pe_bltn (v := .ty "int") (by rfl) B.int (by decide +kernel) rfl) pa_nil))) (nomark _))))) pss_never pss_nil)
    (pss_one (ps_ret (pe_and (pe_cmpR op_eq (pe_callB call_isi (by rfl) B.isi (by decide +kernel) (pa_cons (pv 1) (pa_cons (pe_bltn (v := .ty "str") (by rfl) B.str (by decide +kernel) rfl) pa_nil))) (pe_callB call_isi (by rfl) B.isi (by decide +kernel) (pa_cons (pv 0) (pa_cons (pe_bltn (v := .ty "str") (by rfl) B.str (by decide +kernel) rfl) pa_nil))) (nomark _))
      (pe_one (pe_cmpR op_eq (pv 0) (pv 1) (nomark _)))))))), ?_⟩
  have huv := leaf_same h1 h2 hl
  subst huv
  refine ⟨_, rfl, (by show 2 ≤ sizeLine; decide), fun p hp => ?_⟩
  have e : Same H (upd H p (.tup [.ty "list", .ty "tuple"])) := (Same.refl H).new hp
  have hd := sm e h1
  refine ⟨u, p, _, _, _, _, rfl, upd_same, cls2 (K := K), dp_ty hd, kit_seq hd, _, rfl, ?_⟩
  generalize upd H p (.tup [.ty "list", .ty "tuple"]) = H1 at *
  rw [hl]
  refine iteF ⟨_, rfl, rfl, _, rfl, ?_⟩
  by_cases hn : u = .non
  · subst hn
    exact ifT (decide_eq_true rfl) (iteT ⟨_, rfl, rfl, _, rfl, ifT (decide_eq_true rfl) ⟨_, rfl, rfl, q _ e⟩⟩)
  · refine ifF (decide_eq_false hn) ⟨_, rfl, rfl, _, rfl, ifF (decide_eq_false hn) ?_⟩
    refine ⟨_, rfl, u, .ty "bool", _, _, _, rfl, .ty _, dp_ty hd, kit_dp hd, _, rfl, u, .ty "bool", _, _, _, rfl, .ty _, dp_ty hd, kit_dp hd, rfl, _, rfl, ifF (by rw [decide_eq_true rfl]; rfl) ?_⟩
    refine ⟨_, rfl, u, .ty "int", _, _, _, rfl, .ty _, dp_ty hd, kit_dp hd, _, rfl, u, .ty "int", _, _, _, rfl, .ty _, dp_ty hd, kit_dp hd, rfl, _, rfl, ifF (by rw [decide_eq_true rfl]; rfl) ?_⟩
    refine ⟨_, rfl, u, .ty "str", _, _, _, rfl, .ty _, dp_ty hd, kit_dp hd, _, rfl, u, .ty "str", _, _, _, rfl, .ty _, dp_ty hd, kit_dp hd, rfl, _, rfl, ifT (decide_eq_true rfl) ?_⟩
    have hsc : scal u u = true := by
      cases h1 with
      | non => exact absurd rfl hn
      | bl b => rfl
      | int i => rfl
      | str x => rfl
      | lst _ _ => cases hl
      | tup _ _ => cases hl
    refine ⟨_, rfl, _, rfl, hsc, ?_⟩
    rw [decide_eq_true rfl]
    exact q _ e
theorem k_same (R : Raw K mg "_law_same" s_law_same) (B : Bl mg) : ∀ n, Known P w K mg base "_law_same" (n + 1) ["_law_found", "_law_due"] (spSame K n) := by
  intro n
  induction n with
  | zero =>
    refine known R sc_law_same (fun _ _ _ _ _ _ us hl => match us, hl with | [_, _], _ => rfl) (fun vs H Q E h => by obtain ⟨_, _, _, rfl, _⟩ := h; rfl) (fun f cdv A outer s H vs Q E hr h => ?_)
    obtain ⟨u, v, d, rfl, h1, h2, hw, hn, q⟩ := h
    exact same_leaf R B hr h1 h2 (by cases h1 <;> first | rfl | (rw [PyData.depth] at hn; omega)) q
  | succ n ih =>
    refine known R sc_law_same (fun _ _ _ _ _ _ us hl => match us, hl with | [_, _], _ => rfl) (fun vs H Q E h => by obtain ⟨_, _, _, rfl, _⟩ := h; rfl) (fun f cdv A outer s H vs Q E hr h => ?_)
    obtain ⟨u, v, d, rfl, h1, h2, hw, hn, q⟩ := h
    have nd := sc_law_same.nd
    cases hleaf : isSeq d with
    | false => exact same_leaf R B hr h1 h2 hleaf q
    | true =>
    refine ⟨_, pss_cons (ps_if (pt_val (pe_callB call_isiT (by rfl) B.isi (by decide +kernel) (pa_cons (pv 1) (pa_cons (pe_tup (pa_cons (pe_bltn (v := .ty "list") (by rfl) B.list (by decide +kernel) rfl) (pa_cons (pe_bltn (v := .ty "tuple") (by rfl) B.tuple (by decide +kernel) rfl) pa_nil))) pa_nil))))
      (pss_cons (ps_if (PW.pt (pw_or (pt_cmpR op_ne (pe_callB call_isi (by rfl) B.isi (by decide +kernel) (pa_cons (pv 0) (pa_cons (pe_bltn (v := .ty "list") (by rfl) B.list (by decide +kernel) rfl) pa_nil))) (pe_callB call_isi (by rfl) B.isi (by decide +kernel) (pa_cons (pv 1) (pa_cons (pe_bltn (v := .ty "list") (by rfl) B.list (by decide +kernel) rfl) pa_nil))) (nomark _))
        (pw_or1 (pt_cmpR op_ne (pe_callB call_isi (by rfl) B.isi (by decide +kernel) (pa_cons (pv 0) (pa_cons (pe_bltn (v := .ty "tuple") (by rfl) B.tuple (by decide +kernel) rfl) pa_nil))) (pe_callB call_isi (by rfl) B.isi (by decide +kernel) (pa_cons (pv 1) (pa_cons (pe_bltn (v := .ty "tuple") (by rfl) B.tuple (by decide +kernel) rfl) pa_nil))) (nomark _))))) pss_never pss_nil)
      (pss_one (ps_ret (pe_and (pe_cmpR op_eq (pe_callB call_len_seq (by rfl) B.len PySem.boot_len (pa_cons (pv 0) pa_nil)) (pe_callB call_len_seq (by rfl) B.len PySem.boot_len (pa_cons (pv 1) pa_nil)) (nomark _))
        (pe_one (pe_callB (cr_all rfl) (by rfl) B.all (by decide +kernel) (pa_cons
          (pe_lc (own := [("_law_a", 2), ("_law_b", 3)]) (g := gTup K 2 (gCons (gName 2) (gCons (gName 3) gNil))) (tt := tYes) rfl nd (RZ.pi_zipA (by rfl) B.zip (pa_cons (pv 0) (pa_cons (pv 1) pa_nil))) (blkOk_by (N := N_law_same) (sc := defScope s_law_same) (by decide +kernel))
            (fun _ _ _ _ _ => pg_tup rfl (pgs_cons (pg_name (i := 2) nd rfl (.inl rfl)) (pgs_cons (pg_name (i := 3) nd rfl (.inl rfl)) pgs_nil))) (fun _ _ _ _ _ => pts_nil)
            (fun _ _ _ _ _ => pk ih hr (by rfl) (pa_cons (pv 2) (pa_cons (pv 3) pa_nil)))) pa_nil))))))) pss_nil) pss_never, ?_⟩
    refine ⟨_, rfl, (by show 2 ≤ sizeLine; decide), fun p hp => ?_⟩
    have e : Same H (upd H p (.tup [.ty "list", .ty "tuple"])) := (Same.refl H).new hp
    have hd1 := sm e h1
    have hd2 := sm e h2
    refine ⟨v, p, _, _, _, _, rfl, upd_same, cls2 (K := K), dp_ty hd2, kit_seq hd2, _, rfl, ?_⟩
    generalize upd H p (.tup [.ty "list", .ty "tuple"]) = H1 at *
    rw [hleaf]
    refine iteT ⟨_, rfl, u, .ty "list", _, _, _, rfl, .ty _, dp_ty hd1, kit_dp hd1, _, rfl, v, .ty "list", _, _, _, rfl, .ty _, dp_ty hd2, kit_dp hd2, rfl, _, rfl, ifF (by rw [decide_eq_true rfl]; rfl) ?_⟩
    refine ⟨_, rfl, u, .ty "tuple", _, _, _, rfl, .ty _, dp_ty hd1, kit_dp hd1, _, rfl, v, .ty "tuple", _, _, _, rfl, .ty _, dp_ty hd2, kit_dp hd2, rfl, _, rfl, ifF (by rw [decide_eq_true rfl]; rfl) ?_⟩
    have turn : ∀ {xs ys : List V} {ds : List PyData}, DpAll K H1 xs ds → DpAll K H1 ys ds → widA ds = true → PyData.depthAll ds ≤ n → ∀ {H3 H4 : Hp} {i : Nat} {x y z : V} {Q' : VK}, Same H1 H4 → xs[i]? = some x → ys[i]? = some y → ((List.replicate ds.length true).map V.bl)[i]? = some z →
        (∀ H5, Same H4 H5 → Q' z H5) → spSame K n [x, y] H4 Q' E0 := by
      intro xs ys ds hx hy hwa hdd H3 H4 i x y z Q' e4 h1 h2 hz hq
      obtain ⟨d, hdi, hdx⟩ := dpa_at hx h1
      obtain ⟨d', hdi', hdy⟩ := dpa_at hy h2
      rw [hdi] at hdi'
      cases hdi'
      obtain ⟨b, hb, rfl⟩ := ns_get hz
      have hbt : b = true := List.eq_of_mem_replicate (List.mem_of_getElem? hb)
      subst hbt
      exact ⟨x, y, d, rfl, sm e4 hdx, sm e4 hdy, widA_at hwa (List.mem_of_getElem? hdi), Nat.le_trans (depthA_at (List.mem_of_getElem? hdi)) hdd, hq⟩
    cases d with
    | list ds =>
      obtain ⟨a, xs, rfl, hs, hda⟩ := dp_list hd1
      obtain ⟨b, ys, rfl, ht, hdb⟩ := dp_list hd2
      have hw' : ds.length ≤ 100000 ∧ widA ds = true := by simpa only [wid, Bool.and_eq_true, decide_eq_true_eq] using hw
      rw [PyData.depth] at hn
      have l1 := dpa_len hda
      have l2 := dpa_len hdb
      refine ⟨_, rfl, a, _, rfl, .inl hs, _, rfl, b, _, rfl, .inl ht, rfl, _, rfl, ifT (decide_eq_true (by rw [l1, l2])) ?_⟩
      refine ⟨_, rfl, _, rfl, a, b, xs, ys, rfl, .inl ⟨hs, ht, fun D hD => lc_ys (walk_zip (xs := xs) (ys := ys) (n := ds.length) (by omega)) samePair hD (by omega) ((List.replicate ds.length true).map V.bl) (by simp) (fun H e => ⟨e.seq hs, e.seq ht⟩) (fun i y z H3 H4 hz e3 hy Q' hq => ?_) fun H2 e2 hD2 => ⟨D, _, rfl, SqL.of hD2, ?_⟩⟩⟩
      · obtain ⟨Tp, y1, y2, rfl, hTp, rfl, hy1, hy2⟩ := hy
        have e4 : Same H1 (upd H3 Tp (.tup [y1, y2])) := e3.new hTp
        exact ⟨Tp, _, rfl, SqT.of upd_same, rfl, _, _, rfl, _, _, rfl, rfl, rfl, _, rfl, _, rfl, turn (H3 := H3) hda hdb hw'.2 (by omega) e4 hy1 hy2 hz hq⟩
      · have : (List.replicate ds.length true).all id = true := by simp
        rw [this]
        exact q _ (e.trans (e2.trans hide_same))
    | tuple ds =>
      obtain ⟨a, xs, rfl, hs, hda⟩ := dp_tuple hd1
      obtain ⟨b, ys, rfl, ht, hdb⟩ := dp_tuple hd2
      have hw' : ds.length ≤ 100000 ∧ widA ds = true := by simpa only [wid, Bool.and_eq_true, decide_eq_true_eq] using hw
      rw [PyData.depth] at hn
      have l1 := dpa_len hda
      have l2 := dpa_len hdb
      refine ⟨_, rfl, a, _, rfl, .inr hs, _, rfl, b, _, rfl, .inr ht, rfl, _, rfl, ifT (decide_eq_true (by rw [l1, l2])) ?_⟩
      refine ⟨_, rfl, _, rfl, a, b, xs, ys, rfl, .inr ⟨hs, ht, fun D hD => lc_ys (walk_zipT (xs := xs) (ys := ys) (n := ds.length) (by omega)) samePair hD (by omega) ((List.replicate ds.length true).map V.bl) (by simp) (fun H e => ⟨Same.tup e hs, Same.tup e ht⟩) (fun i y z H3 H4 hz e3 hy Q' hq => ?_) fun H2 e2 hD2 => ⟨D, _, rfl, SqL.of hD2, ?_⟩⟩⟩
      · obtain ⟨Tp, y1, y2, rfl, hTp, rfl, hy1, hy2⟩ := hy
        have e4 : Same H1 (upd H3 Tp (.tup [y1, y2])) := e3.new hTp
        exact ⟨Tp, _, rfl, SqT.of upd_same, rfl, _, _, rfl, _, _, rfl, rfl, rfl, _, rfl, _, rfl, turn (H3 := H3) hda hdb hw'.2 (by omega) e4 hy1 hy2 hz hq⟩
      · have : (List.replicate ds.length true).all id = true := by simp
        rw [this]
        exact q _ (e.trans (e2.trans hide_same))
    | dict kvs => cases h1
    | none => cases hleaf
    | bool b => cases hleaf
    | int i => cases hleaf
    | str x => cases hleaf
end
end L2.K55
namespace L2.K55
open PySem PySem.Spec PyProof.Rows
abbrev soI : List Itm := [.pr [1, 0] (some [1, 0]), .pr [1, 2] (some [1, 2])]
theorem so_holds : hP (odo 3) (odo 3) (.lst soI) (.num 1) = true := by decide
theorem so_holdsT : hP (odo 3) (odo 3) (.tup soI) (.num 1) = true := by decide
theorem so_ok : ∀ i ∈ soI, i.ok := fun i hi => by
  have h : i = .pr [1, 0] (some [1, 0]) ∨ i = .pr [1, 2] (some [1, 2]) := by simpa using hi
  rcases h with rfl | rfl
  · exact ⟨by decide, fun b e => by cases e; decide⟩
  · exact ⟨by decide, fun b e => by cases e; decide⟩
theorem isP3 : isPrm 3 := .inr (.inl rfl)
theorem isP2 : isPrm 2 := .inl rfl
theorem rw_so {H : Hp} {v : V} (h : Rw H v (Sm.lst soI).d) : ∃ a t1 t2 l1 l2 l3 l4, v = .ref a ∧ H a = some (.lst [.ref t1, .ref t2]) ∧ H t2 = some (.tup [.ref l3, .ref l4]) ∧ H l3 = some (.lst [.int 1, .int 2]) ∧ H t1 = some (.tup [.ref l1, .ref l2]) := by
  have h' : Rw H v (.list [.tuple [.list [.int 1, .int 0], .list [.int 1, .int 0]], .tuple [.list [.int 1, .int 2], .list [.int 1, .int 2]]]) := h
  cases h' with
  | lst ha hr =>
    cases hr with
    | cons h1 hr =>
      cases hr with
      | cons h2 hr =>
        cases hr
        cases h1 with
        | tup ht1 q1 =>
          cases q1 with
          | cons p1 q1 =>
            cases q1 with
            | cons p2 q1 =>
              cases q1
              cases p1 with
              | lst hl1 _ =>
                cases p2 with
                | lst hl2 _ =>
                  cases h2 with
                  | tup ht2 q2 =>
                    cases q2 with
                    | cons p3 q2 =>
                      cases q2 with
                      | cons p4 q2 =>
                        cases q2
                        cases p3 with
                        | lst hl3 z3 =>
                          cases p4 with
                          | lst hl4 _ =>
                            cases z3 with
                            | cons y1 z3 =>
                              cases z3 with
                              | cons y2 z3 =>
                                cases z3
                                cases y1
                                cases y2
                                exact ⟨_, _, _, _, _, _, _, rfl, ha, ht2, hl3, ht1⟩
section
variable {P : Program} {w : World} {K : PySem.W.Frag} {mg : Str → Option Value} {base : Heap} {CT CM : Addr}
def spSo (K : PySem.W.Frag) (CT : Addr) : Sp := fun vs H Q _ => ∃ (x : Addr), vs = [.ref x] ∧ TurnerAt K CT H x (odo 3) ∧ ∀ H', Same H H' → Q (.bl true) H'
theorem k_so (R : Raw K mg "_law_match_lists_so" s_law_match_lists_so) (B : Bl mg) (T : MF K mg CM) (FC : KnownC P w K mg base CT CM) (F1 : ∀ n, Known P w K mg base "_law_same" (n + 1) ["_law_found", "_law_due"] (spSame K n))
    (F2 : KnownP P w K mg base CM "pairs" 5 (spMPairs K CT CM)) (F3 : KnownM P w K mg base CM "__len__" 2 ["self"] (spMLen K CT CM)) (F4 : KnownM P w K mg base CM "holds" 8 ["self"] (spHolds K CT CM)) :
    Known P w K mg base "_law_match_lists_so" 9 ["_law_three_z"] (spSo K CT) := by
  refine known R sc_law_match_lists_so (fun _ _ _ _ _ _ us hl => match us, hl with | [_], _ => rfl) (fun vs H Q E h => by obtain ⟨_, rfl, _⟩ := h; rfl) (fun f cdv A outer s H vs Q E hr h => ?_)
  obtain ⟨xT, rfl, hT, q⟩ := h
  have nd := sc_law_match_lists_so.nd
  refine ⟨_, pss_cons (ps_set (i := 1) nd rfl (Or.inl rfl) (pe_lst (pa_cons (pe_tup (pa_cons (pe_lst (pa_cons pe_int (pa_cons pe_int pa_nil))) (pa_cons (pe_lst (pa_cons pe_int (pa_cons pe_int pa_nil))) pa_nil))) (pa_cons (pe_tup (pa_cons (pe_lst (pa_cons pe_int (pa_cons pe_int pa_nil))) (pa_cons (pe_lst (pa_cons pe_int (pa_cons pe_int pa_nil))) pa_nil))) pa_nil))))
    (pss_cons (ps_set (i := 2) nd rfl (Or.inl rfl) (pkMatch FC (hr.mono (by decide : 6 ≤ 8)) (by rfl) (pa_cons (pv 0) (pa_cons (pv 0) (pa_cons (pv 1) (pa_cons pe_int pa_nil))))))
    (pss_cons (ps_expr (pe_bm PySem.F.plainAttrs_list PySem.F.slot_list_append PySem.F.type_list_append mt_append (pe_ix ix_tup (pe_ix ix_list (pv 1) pe_int (fun _ _ => rfl)) pe_int (fun _ _ => rfl)) (pa_cons pe_int pa_nil)))
    (pss_cons (ps_expr (pe_bm0 PySem.F.plainAttrs_list PySem.F.slot_list_clear PySem.F.type_list_clear mt_clear (pe_ix ix_tup (pe_ix ix_list (pv 1) pe_int (fun _ _ => rfl)) pe_int (fun _ _ => rfl))))
    (pss_cons (ps_for PassesOwn.never rfl (pi_range1 (by rfl) B.range (pa_cons pe_int pa_nil)) (pg_name (i := 3) nd rfl (Or.inl rfl))
      (pss_cons (ps_if (pt_not (pt_val (pk ((F1 4).mono (by decide : 5 ≤ 8)) hr (by rfl) (pa_cons (pe_lst (pa_cons (pkp (pv 2) T.cl F2 (hr.mono (by decide))) (pa_cons (pe_callB (call_lenK F3 (hr.mono (by decide))) (by rfl) B.len PySem.boot_len (pa_cons (pv 2) pa_nil)) (pa_cons (pkm0 (pv 2) T.cl F4 hr) pa_nil))))
        (pa_cons (pe_lst (pa_cons (pe_lst (pa_cons (pe_tup (pa_cons (pe_lst (pa_cons pe_int (pa_cons pe_int pa_nil))) (pa_cons (pe_lst (pa_cons pe_int (pa_cons pe_int pa_nil))) pa_nil))) (pa_cons (pe_tup (pa_cons (pe_lst (pa_cons pe_int (pa_cons pe_int pa_nil))) (pa_cons (pe_lst (pa_cons pe_int (pa_cons pe_int pa_nil))) pa_nil))) pa_nil))) (pa_cons pe_int (pa_cons pe_bl pa_nil)))) pa_nil))))) pss_never pss_nil)
      (pss_cons (ps_expr (pe_bm PySem.F.plainAttrs_list PySem.F.slot_list_append PySem.F.type_list_append mt_append (pe_ix ix_tup (pe_ix ix_list (pkp (pv 2) T.cl F2 (hr.mono (by decide))) pe_int (fun _ _ => rfl)) pe_int (fun _ _ => rfl)) (pa_cons pe_int pa_nil)))
      (pss_one (ps_expr (pe_bm PySem.F.plainAttrs_list PySem.F.slot_list_append PySem.F.type_list_append mt_append (pkp (pv 2) T.cl F2 (hr.mono (by decide))) (pa_cons pe_non pa_nil)))))))
    (pss_cons (ps_set (i := 2) nd rfl (Or.inl rfl) (pkMatch FC (hr.mono (by decide : 6 ≤ 8)) (by rfl) (pa_cons (pv 0) (pa_cons (pv 0) (pa_cons
        (pe_tup (pa_cons (pe_tup (pa_cons (pe_lst (pa_cons pe_int (pa_cons pe_int pa_nil))) (pa_cons (pe_lst (pa_cons pe_int (pa_cons pe_int pa_nil))) pa_nil))) (pa_cons (pe_tup (pa_cons (pe_lst (pa_cons pe_int (pa_cons pe_int pa_nil))) (pa_cons (pe_lst (pa_cons pe_int (pa_cons pe_int pa_nil))) pa_nil))) pa_nil))) (pa_cons pe_int pa_nil))))))
    (pss_one (ps_ret (pk ((F1 1).mono (by decide : 2 ≤ 8)) hr (by rfl) (pa_cons (pe_lst (pa_cons (pkm0 (pv 2) T.cl F4 hr) (pa_cons (pe_callB (call_lenK F3 (hr.mono (by decide))) (by rfl) B.len PySem.boot_len (pa_cons (pv 2) pa_nil)) pa_nil))) (pa_cons (pe_lst (pa_cons pe_bl (pa_cons pe_int pa_nil))) pa_nil)))))))))), ?_⟩
  have disp : ∀ {H0 H1 H2 H3 H4 H5 H6 : Hp} {l1 l2 t1 l3 l4 t2 : Addr}, H0 l1 = none → H1 = upd H0 l1 (.lst [.int 1, .int 0]) → H1 l2 = none → H2 = upd H1 l2 (.lst [.int 1, .int 0]) → H2 t1 = none → H3 = upd H2 t1 (.tup [.ref l1, .ref l2]) →
      H3 l3 = none → H4 = upd H3 l3 (.lst [.int 1, .int 2]) → H4 l4 = none → H5 = upd H4 l4 (.lst [.int 1, .int 2]) → H5 t2 = none → H6 = upd H5 t2 (.tup [.ref l3, .ref l4]) →
      Same H0 H6 ∧ H0 l1 = none ∧ H0 l4 = none ∧ H6 l1 = some (.lst [.int 1, .int 0]) ∧ H6 t1 = some (.tup [.ref l1, .ref l2]) ∧ H6 l4 = some (.lst [.int 1, .int 2]) ∧ H6 t2 = some (.tup [.ref l3, .ref l4]) ∧ l1 ≠ l4 ∧ DpAll K H6 [.ref t1, .ref t2] (soI.map Itm.d) := by
    intro H0 H1 H2 H3 H4 H5 H6 l1 l2 t1 l3 l4 t2 n1 r1 n2 r2 n3 r3 n4 r4 n5 r5 n6 r6
    have e1 : Same H0 H1 := by rw [r1]; exact (Same.refl _).new n1
    have e2 : Same H1 H2 := by rw [r2]; exact (Same.refl _).new n2
    have e3 : Same H2 H3 := by rw [r3]; exact (Same.refl _).new n3
    have e4 : Same H3 H4 := by rw [r4]; exact (Same.refl _).new n4
    have e5 : Same H4 H5 := by rw [r5]; exact (Same.refl _).new n5
    have e6 : Same H5 H6 := by rw [r6]; exact (Same.refl _).new n6
    have a1 : H1 l1 = some (.lst [.int 1, .int 0]) := by rw [r1, upd_same]
    have a2 : H2 l2 = some (.lst [.int 1, .int 0]) := by rw [r2, upd_same]
    have a3 : H3 t1 = some (.tup [.ref l1, .ref l2]) := by rw [r3, upd_same]
    have a4 : H4 l3 = some (.lst [.int 1, .int 2]) := by rw [r4, upd_same]
    have a5 : H5 l4 = some (.lst [.int 1, .int 2]) := by rw [r5, upd_same]
    have a6 : H6 t2 = some (.tup [.ref l3, .ref l4]) := by rw [r6, upd_same]
    have b5 := e5.trans e6
    have b4 := e4.trans b5
    have b3 := e3.trans b4
    have b2 := e2.trans b3
    refine ⟨e1.trans b2, n1, (e1.trans (e2.trans (e3.trans e4))).free n5, b2 _ _ a1, b4 _ _ a3, e6 _ _ a5, a6, ne_of_none ((e2.trans (e3.trans e4)) _ _ a1) n5, ?_⟩
    exact .cons (.tup (SqT.of (b4 _ _ a3)) (.cons (dI_mk (ns := [1, 0]) (SqL.of (b2 _ _ a1))) (.cons (dI_mk (ns := [1, 0]) (SqL.of (b3 _ _ a2))) .nil))) (.cons (.tup (SqT.of a6) (.cons (dI_mk (ns := [1, 2]) (SqL.of (b5 _ _ a4))) (.cons (dI_mk (ns := [1, 2]) (SqL.of (e6 _ _ a5))) .nil))) .nil)
  refine ⟨by show 2 ≤ sizeLine; decide, fun l1 n1 => ⟨by show 2 ≤ sizeLine; decide, fun l2 n2 => ⟨by show 2 ≤ sizeLine; decide, fun t1 n3 => ⟨by show 2 ≤ sizeLine; decide, fun l3 n4 => ⟨by show 2 ≤ sizeLine; decide, fun l4 n5 => ⟨by show 2 ≤ sizeLine; decide, fun t2 n6 => ⟨by show 2 ≤ sizeLine; decide, fun lr n7 => ?_⟩⟩⟩⟩⟩⟩⟩
  obtain ⟨e06, z1, z4, h1, h2, h3, h4, n14, hda⟩ := disp n1 rfl n2 rfl n3 rfl n4 rfl n5 rfl n6 rfl
  generalize upd (upd (upd (upd (upd (upd H l1 (.lst [.int 1, .int 0])) l2 (.lst [.int 1, .int 0])) t1 (.tup [.ref l1, .ref l2])) l3 (.lst [.int 1, .int 2])) l4 (.lst [.int 1, .int 2])) t2 (.tup [.ref l3, .ref l4]) = H6 at *
  have e67 : Same H6 (upd H6 lr (.lst [.ref t1, .ref t2])) := (Same.refl _).new n7
  have h7 : (upd H6 lr (.lst [.ref t1, .ref t2])) lr = some (.lst [.ref t1, .ref t2]) := upd_same
  generalize upd H6 lr (.lst [.ref t1, .ref t2]) = H7 at *
  have e07 := e06.trans e67
  refine ⟨_, rfl, _, rfl, _, rfl, xT, xT, odo 3, odo 3, .ref lr, .int 1, (Sm.lst soI).d, (Bk.num 1).d, rfl, ⟨hT.same e07, hT.same e07, .lst (SqL.of h7) (sma e67 hda), by decide, by decide, .int 1, rfl⟩, fun H8 xm dx vp vb hxm hdx e8 hx8 hvp hvb => ?_⟩
  have e08 := e07.trans e8
  have k1 := e8 _ _ (e67 _ _ h1)
  have k4 := e8 _ _ (e67 _ _ h3)
  refine ⟨_, rfl, lr, _, _, _, rfl, rfl, SqL.of (e8 _ _ h7), at_of (j := 0) rfl rfl, t1, _, _, _, rfl, rfl, SqT.of (e8 _ _ (e67 _ _ h2)), at_of (j := 0) rfl rfl, .inl ⟨rfl, _, SqL.of k1⟩, l1, _, _, rfl, rfl, k1, by show 2 < sizeLine; decide, ?_⟩
  have keep : ∀ {a : Addr} {o : HO}, a ≠ l1 → H8 a = some o → (upd H8 l1 (.lst ([.int 1, .int 0] ++ [.int 7]))) a = some o := fun n h => by rw [upd_ne n]; exact h
  have nlr1 : lr ≠ l1 := fun e => by have := e8 _ _ h7; rw [e, k1] at this; cases this
  have nt21 : t2 ≠ l1 := fun e => by have := e67 _ _ h4; rw [e, e67 _ _ h1] at this; cases this
  refine ⟨_, rfl, lr, _, _, _, rfl, rfl, SqL.of (keep nlr1 (e8 _ _ h7)), at_of (j := 1) rfl rfl, t2, _, _, _, rfl, rfl, SqT.of (keep nt21 (e8 _ _ (e67 _ _ h4))), at_of (j := 1) rfl rfl, .inl ⟨rfl, _, SqL.of (keep (fun e => n14 e.symm) k4)⟩, l4, _, rfl, rfl, keep (fun e => n14 e.symm) k4, ?_⟩
  have e0a : Same H (upd (upd H8 l1 (.lst ([.int 1, .int 0] ++ [.int 7]))) l4 (.lst [])) := (e08.mut z1).mut z4
  have eN : ∀ {a : Addr} {o : HO}, H7 a = none → H8 a = some o → (upd (upd H8 l1 (.lst ([.int 1, .int 0] ++ [.int 7]))) l4 (.lst [])) a = some o := fun {a o} hn ho => by
    rw [upd_ne (fun e => by rw [e, e67 _ _ h3] at hn; cases hn), upd_ne (fun e => by rw [e, e67 _ _ h1] at hn; cases hn)]
    exact ho
  have eM : Same (nw H7 H8) (upd (upd H8 l1 (.lst ([.int 1, .int 0] ++ [.int 7]))) l4 (.lst [])) := fun a o h => by
    obtain ⟨g1, g2⟩ := nw_inv h
    exact eN g1 g2
  have hMa : MatchAt K CT CM (upd (upd H8 l1 (.lst ([.int 1, .int 0] ++ [.int 7]))) l4 (.lst [])) xm (odo 3) (odo 3) (Sm.lst soI).d (Bk.num 1).d := ⟨dx, xT, xT, vp, vb, eN hxm hx8, hT.same e0a, hT.same e0a, sm eM hvp, sm eM hvb⟩
  generalize upd (upd H8 l1 (.lst ([.int 1, .int 0] ++ [.int 7]))) l4 (.lst []) = Ha at *
  clear hda h1 h2 h3 h4 h7 k1 k4 keep nlr1 nt21 eN eM e8 e67 e08 e07 e06 hvp hvb
  have hso : (Sm.lst soI).ok := ⟨by decide, so_ok⟩
  have hsoT : (Sm.tup soI).ok := ⟨by decide, so_ok⟩
  refine ⟨_, rfl, by decide, by decide, for_it (walk_range (lo := 0)) (fun i σ H' => ∃ (o3 : Option V), σ = [some (.ref xT), some (.ref lr), some (.ref xm), o3] ∧ Same H H' ∧ MatchAt K CT CM H' xm (odo 3) (odo 3) (Sm.lst soI).d (Bk.num 1).d)
    ⟨_, rfl, e0a, hMa⟩ (fun _ _ _ _ _ => trivial) ?_ ?_⟩
  · rintro i y σ Hx H1 hi ⟨o3, rfl, e1, hM⟩ ⟨rfl, rfl⟩
    obtain ⟨dx', xa, xb, vp', vb', m1, m2, m3, m4, m5⟩ := id hM
    refine ⟨_, rfl, xm, dx', _, rfl, m1, xm, odo 3, odo 3, (Sm.lst soI).d, (Bk.num 1).d, rfl, hM, by decide, by decide, fun H2 v2 e2 hv2 => ?_⟩
    refine ⟨_, rfl, xm, dx', _, rfl, e2 _ _ m1, xm, odo 3, odo 3, (Sm.lst soI).d, (Bk.num 1).d, rfl, hM.same e2, fun H3 e3 => ⟨⟨_, rfl, by decide⟩, ?_⟩⟩
    refine ⟨_, rfl, xm, dx', _, rfl, (e2.trans e3) _ _ m1, mf_no _ _ _ _ (by decide +kernel) (by decide +kernel) (by decide +kernel) (by decide +kernel), xm, odo 3, odo 3, .lst soI, .num 1, rfl, hM.same (e2.trans e3), odo_wf isP3, odo_wf isP3, hso, fun H4 e4 => ⟨by show 3 ≤ sizeLine; decide, fun p hp => ?_⟩⟩
    rw [so_holds]
    have e24 : Same H2 (upd H4 p (.lst [v2, .int (lenD (Sm.lst soI).d : Nat), .bl true])) := (e3.trans e4).new hp
    have hp4 : (upd H4 p (.lst [v2, .int (lenD (Sm.lst soI).d : Nat), .bl true])) p = some (.lst [v2, .int (lenD (Sm.lst soI).d : Nat), .bl true]) := upd_same
    generalize upd H4 p (.lst [v2, .int (lenD (Sm.lst soI).d : Nat), .bl true]) = H5 at *
    refine ⟨by show 2 ≤ sizeLine; decide, fun l1 n1 => ⟨by show 2 ≤ sizeLine; decide, fun l2 n2 => ⟨by show 2 ≤ sizeLine; decide, fun t1 n3 => ⟨by show 2 ≤ sizeLine; decide, fun l3 n4 => ⟨by show 2 ≤ sizeLine; decide, fun l4 n5 => ⟨by show 2 ≤ sizeLine; decide, fun t2 n6 => ⟨by show 2 ≤ sizeLine; decide, fun lr2 n7 => ⟨by show 3 ≤ sizeLine; decide, fun p2 n8 => ?_⟩⟩⟩⟩⟩⟩⟩⟩
    obtain ⟨e56, z1, z4, h1, h2, h3, h4, n14, hda⟩ := disp n1 rfl n2 rfl n3 rfl n4 rfl n5 rfl n6 rfl
    generalize upd (upd (upd (upd (upd (upd H5 l1 (.lst [.int 1, .int 0])) l2 (.lst [.int 1, .int 0])) t1 (.tup [.ref l1, .ref l2])) l3 (.lst [.int 1, .int 2])) l4 (.lst [.int 1, .int 2])) t2 (.tup [.ref l3, .ref l4]) = H6 at *
    have e67 : Same H6 (upd H6 lr2 (.lst [.ref t1, .ref t2])) := (Same.refl _).new n7
    have h7 : (upd H6 lr2 (.lst [.ref t1, .ref t2])) lr2 = some (.lst [.ref t1, .ref t2]) := upd_same
    generalize upd H6 lr2 (.lst [.ref t1, .ref t2]) = H7 at *
    have e78 : Same H7 (upd H7 p2 (.lst [.ref lr2, .int 2, .bl true])) := (Same.refl _).new n8
    have h8 : (upd H7 p2 (.lst [.ref lr2, .int 2, .bl true])) p2 = some (.lst [.ref lr2, .int 2, .bl true]) := upd_same
    generalize upd H7 p2 (.lst [.ref lr2, .int 2, .bl true]) = H8' at *
    have e58 := e56.trans (e67.trans e78)
    refine ⟨.ref p, .ref p2, .list [(Sm.lst soI).d, .int 2, .bool true], rfl, .lst (SqL.of (e58 _ _ hp4)) (.cons (sm (nw_same.trans (e24.trans e58)) hv2.dp) (.cons (.int _) (.cons (.bl _) .nil))), .lst (SqL.of h8) (.cons (.lst (SqL.of (e78 _ _ h7)) (sma (e67.trans e78) hda)) (.cons (.int _) (.cons (.bl _) .nil))), by decide, by decide, fun H9 e9 => ⟨_, rfl, iteF ?_⟩⟩
    have e19 : Same H1 H9 := e2.trans (e24.trans (e58.trans e9))
    have hM9 := hM.same e19
    clear h1 h2 h3 h4 h7 h8 hda hp4
    refine ⟨_, rfl, xm, dx', _, rfl, e19 _ _ m1, xm, odo 3, odo 3, (Sm.lst soI).d, (Bk.num 1).d, rfl, hM9, by decide, by decide, fun Hb v3 eb hv3 => ?_⟩
    obtain ⟨a, ta, tb, la, lb, lc, ld, rfl, g1, g2, g3, g4⟩ := rw_so hv3
    obtain ⟨_, g1'⟩ := nw_inv g1
    obtain ⟨_, g2'⟩ := nw_inv g2
    obtain ⟨g3n, g3'⟩ := nw_inv g3
    refine ⟨a, _, _, _, rfl, rfl, SqL.of g1', at_of (j := 1) rfl rfl, tb, _, _, _, rfl, rfl, SqT.of g2', at_of (j := 0) rfl rfl, .inl ⟨rfl, _, SqL.of g3'⟩, lc, _, _, rfl, rfl, g3', by show 2 < sizeLine; decide, ?_⟩
    have e1c : Same H9 (upd Hb lc (.lst ([.int 1, .int 2] ++ [.int 9]))) := eb.mut g3n
    generalize upd Hb lc (.lst ([.int 1, .int 2] ++ [.int 9])) = Hc at *
    refine ⟨_, rfl, xm, dx', _, rfl, (e19.trans e1c) _ _ m1, xm, odo 3, odo 3, (Sm.lst soI).d, (Bk.num 1).d, rfl, hM9.same e1c, by decide, by decide, fun Hd v4 ed hv4 => ?_⟩
    obtain ⟨a', ta', tb', la', lb', lc', ld', rfl, g1, g2, g3, g4⟩ := rw_so hv4
    obtain ⟨g1n, g1'⟩ := nw_inv g1
    refine ⟨.inl ⟨rfl, _, SqL.of g1'⟩, a', _, _, rfl, rfl, g1', by show 2 < sizeLine; decide, ?_⟩
    have e1d : Same Hc (upd Hd a' (.lst ([.ref ta', .ref tb'] ++ [.non]))) := ed.mut g1n
    exact ⟨_, rfl, e1.trans (e19.trans (e1c.trans e1d)), hM9.same (e1c.trans e1d)⟩
  · rintro σ H1 ⟨o3, rfl, e1, hM⟩
    refine ⟨_, rfl, _, rfl, by show 2 ≤ sizeLine; decide, fun l1 n1 => ⟨by show 2 ≤ sizeLine; decide, fun l2 n2 => ⟨by show 2 ≤ sizeLine; decide, fun t1 n3 => ⟨by show 2 ≤ sizeLine; decide, fun l3 n4 => ⟨by show 2 ≤ sizeLine; decide, fun l4 n5 => ⟨by show 2 ≤ sizeLine; decide, fun t2 n6 => ⟨by show 2 ≤ sizeLine; decide, fun tr n7 => ?_⟩⟩⟩⟩⟩⟩⟩
    obtain ⟨e16, z1, z4, h1, h2, h3, h4, n14, hda⟩ := disp n1 rfl n2 rfl n3 rfl n4 rfl n5 rfl n6 rfl
    generalize upd (upd (upd (upd (upd (upd H1 l1 (.lst [.int 1, .int 0])) l2 (.lst [.int 1, .int 0])) t1 (.tup [.ref l1, .ref l2])) l3 (.lst [.int 1, .int 2])) l4 (.lst [.int 1, .int 2])) t2 (.tup [.ref l3, .ref l4]) = H6 at *
    have e67 : Same H6 (upd H6 tr (.tup [.ref t1, .ref t2])) := (Same.refl _).new n7
    have h7 : (upd H6 tr (.tup [.ref t1, .ref t2])) tr = some (.tup [.ref t1, .ref t2]) := upd_same
    generalize upd H6 tr (.tup [.ref t1, .ref t2]) = H7 at *
    have e07 := e1.trans (e16.trans e67)
    refine ⟨xT, xT, odo 3, odo 3, .ref tr, .int 1, (Sm.tup soI).d, (Bk.num 1).d, rfl, ⟨hT.same e07, hT.same e07, .tup (SqT.of h7) (sma e67 hda), by decide, by decide, .int 1, rfl⟩, fun H8' xm2 dx2 vp2 vb2 hxm2 hdx2 e8 hx8 hvp2 hvb2 => ?_⟩
    have e08 := e07.trans e8
    have hM2 : MatchAt K CT CM H8' xm2 (odo 3) (odo 3) (Sm.tup soI).d (Bk.num 1).d := ⟨dx2, xT, xT, vp2, vb2, hx8, hT.same e08, hT.same e08, sm nw_same hvp2, sm nw_same hvb2⟩
    refine ⟨_, rfl, xm2, dx2, _, rfl, hx8, mf_no _ _ _ _ (by decide +kernel) (by decide +kernel) (by decide +kernel) (by decide +kernel), xm2, odo 3, odo 3, .tup soI, .num 1, rfl, hM2, odo_wf isP3, odo_wf isP3, hsoT, fun H9 e9 => ?_⟩
    refine ⟨_, rfl, xm2, dx2, _, rfl, e9 _ _ hx8, xm2, odo 3, odo 3, (Sm.tup soI).d, (Bk.num 1).d, rfl, hM2.same e9, fun Hb eb => ⟨⟨_, rfl, by decide⟩, by show 2 ≤ sizeLine; decide, fun p hp => ⟨by show 2 ≤ sizeLine; decide, fun p2 hp2 => ?_⟩⟩⟩
    rw [so_holdsT] at hp2 ⊢
    have ec : Same Hb (upd Hb p (.lst [.bl true, .int (lenD (Sm.tup soI).d : Nat)])) := (Same.refl _).new hp
    have hpc : (upd Hb p (.lst [.bl true, .int (lenD (Sm.tup soI).d : Nat)])) p = some (.lst [.bl true, .int (lenD (Sm.tup soI).d : Nat)]) := upd_same
    generalize upd Hb p (.lst [.bl true, .int (lenD (Sm.tup soI).d : Nat)]) = Hc at *
    have ed : Same Hc (upd Hc p2 (.lst [.bl true, .int 2])) := (Same.refl _).new hp2
    refine ⟨.ref p, .ref p2, .list [.bool true, .int 2], rfl, .lst (SqL.of (ed _ _ hpc)) (.cons (.bl _) (.cons (.int _) .nil)), .lst (SqL.of upd_same) (.cons (.bl _) (.cons (.int _) .nil)), by decide, by decide, fun He ee => ?_⟩
    exact q He (e08.trans (e9.trans (eb.trans (ec.trans (ed.trans ee)))))
end
end L2.K55
namespace L2.K55
open PySem PySem.Spec PyProof.Rows
theorem wid_ints : ∀ ns : List Int, widA (ns.map PyData.int) = true
  | [] => by simp [widA]
  | n :: ns => by simp [widA, wid, wid_ints ns]
theorem wid_dI {ns : List Int} (h : ns.length ≤ 100000) : wid (dI ns) = true := by
  simp only [dI, wid, Bool.and_eq_true, decide_eq_true_eq, List.length_map]
  exact ⟨h, wid_ints ns⟩
theorem depth_dI (ns : List Int) : (dI ns).depth = 1 := by simp [dI, PyData.depth, depth_ints]
theorem okD_tup (ds : List PyData) : okD (.tuple ds) = okA ds := by simp only [okD]
theorem okD_lst (ds : List PyData) : okD (.list ds) = (okL ds && okA ds) := by simp only [okD]
theorem okA_cons (d : PyData) (ds : List PyData) : okA (d :: ds) = (okD d && okA ds) := by simp only [okA]
theorem okA_nil : okA [] = true := by simp only [okA]
theorem wid_tup (ds : List PyData) : wid (.tuple ds) = (decide (ds.length ≤ 100000) && widA ds) := by simp only [wid]
theorem wid_lst (ds : List PyData) : wid (.list ds) = (decide (ds.length ≤ 100000) && widA ds) := by simp only [wid]
theorem widA_cons (d : PyData) (ds : List PyData) : widA (d :: ds) = (wid d && widA ds) := by simp only [widA]
theorem widA_nil : widA [] = true := by simp only [widA]
theorem okD_o (o : Option (List Int)) : okD (oD o) = true := by
  cases o with
  | none => simp only [oD, okD]
  | some b => exact okD_I b
theorem okD_itm (i : Itm) : okD i.d = true := by
  cases i with
  | pr a o =>
    rw [show (Itm.pr a o).d = .tuple [dI a, oD o] from rfl, okD_tup, okA_cons, okA_cons, okA_nil, okD_I, okD_o]
    rfl
  | l2 a b =>
    rw [show (Itm.l2 a b).d = .list [dI a, dI b] from rfl, okD_lst, okA_cons, okA_cons, okA_nil, okD_I, okD_I]
    rfl
  | li a => exact okD_I a
  | t1 a =>
    rw [show (Itm.t1 a).d = .tuple [dI a] from rfl, okD_tup, okA_cons, okA_nil, okD_I]
    rfl
  | non => simp only [Itm.d, okD]
theorem wid_itm {i : Itm} (h : i.ok) : wid i.d = true := by
  cases i with
  | pr a o =>
    have h1 := wid_dI h.1
    have h2 : wid (oD o) = true := by
      cases o with
      | none => simp only [oD, wid]
      | some b => exact wid_dI (h.2 b rfl)
    rw [show (Itm.pr a o).d = .tuple [dI a, oD o] from rfl, wid_tup, widA_cons, widA_cons, widA_nil, h1, h2]
    rfl
  | l2 a b =>
    rw [show (Itm.l2 a b).d = .list [dI a, dI b] from rfl, wid_lst, widA_cons, widA_cons, widA_nil, wid_dI h.1, wid_dI h.2]
    rfl
  | li a => exact wid_dI h
  | t1 a =>
    rw [show (Itm.t1 a).d = .tuple [dI a] from rfl, wid_tup, widA_cons, widA_nil, wid_dI (ns := a) h]
    rfl
  | non => simp [Itm.d, wid]
theorem depth_itm (i : Itm) : i.d.depth ≤ 2 := by
  cases i with
  | pr a o =>
    cases o with
    | none => simp [Itm.d, PyData.depth, PyData.depthAll, depth_ints, oD]
    | some b => simp [Itm.d, PyData.depth, PyData.depthAll, depth_ints, oD]
  | l2 a b => simp [Itm.d, PyData.depth, PyData.depthAll, depth_ints]
  | li a => simp [Itm.d, PyData.depth, depth_ints]
  | t1 a => simp [Itm.d, PyData.depth, PyData.depthAll, depth_ints]
  | non => simp [Itm.d, PyData.depth]
theorem okA_itms (is : List Itm) : okA (is.map Itm.d) = true := okA_all fun d h => by
  obtain ⟨i, _, rfl⟩ := List.mem_map.mp h
  exact okD_itm i
theorem widA_all : ∀ {ds : List PyData}, (∀ d ∈ ds, wid d = true) → widA ds = true
  | [], _ => by simp only [widA]
  | d :: ds, h => by
    simp only [widA, Bool.and_eq_true]
    exact ⟨h d List.mem_cons_self, widA_all fun e he => h e (List.mem_cons_of_mem _ he)⟩
theorem depthA_all {n : Nat} : ∀ {ds : List PyData}, (∀ d ∈ ds, d.depth ≤ n) → PyData.depthAll ds ≤ n
  | [], _ => by simp [PyData.depthAll]
  | d :: ds, h => by
    rw [PyData.depthAll]
    exact Nat.max_le.mpr ⟨h d List.mem_cons_self, depthA_all fun e he => h e (List.mem_cons_of_mem _ he)⟩
theorem okL_itms : ∀ is : List Itm, okL (is.map Itm.d) = true
  | [] => rfl
  | [a] => by cases a <;> rfl
  | [a, b] => by cases a <;> cases b <;> rfl
  | [a, b, c] => by cases a <;> cases b <;> rfl
  | [a, b, c, d] => by cases a <;> cases b <;> rfl
  | [a, b, c, d, e] => by cases a <;> cases b <;> rfl
  | a :: b :: c :: d :: e :: f :: l => by cases a <;> cases b <;> rfl
theorem okD_sm (s : Sm) : okD s.d = true := by
  cases s with
  | non => simp only [Sm.d, okD]
  | three => simp only [Sm.d, okD]
  | lst is => rw [Sm.d, okD_lst, okL_itms, okA_itms]; rfl
  | tup is => rw [Sm.d, okD_tup, okA_itms]
theorem wid_sm {s : Sm} (h : s.ok) : wid s.d = true := by
  have key : ∀ is : List Itm, (∀ i ∈ is, i.ok) → widA (is.map Itm.d) = true := fun is h => widA_all fun d hd => by
    obtain ⟨i, hi, rfl⟩ := List.mem_map.mp hd
    exact wid_itm (h i hi)
  cases s with
  | non => simp only [Sm.d, wid]
  | three => simp only [Sm.d, wid]
  | lst is =>
    simp only [Sm.d, wid_lst, wid_tup, Bool.and_eq_true, decide_eq_true_eq, List.length_map]
    exact ⟨Nat.le_trans h.1 (by decide), key is h.2⟩
  | tup is =>
    simp only [Sm.d, wid_lst, wid_tup, Bool.and_eq_true, decide_eq_true_eq, List.length_map]
    exact ⟨Nat.le_trans h.1 (by decide), key is h.2⟩
theorem depth_sm (s : Sm) : s.d.depth ≤ 3 := by
  have key : ∀ is : List Itm, PyData.depthAll (is.map Itm.d) ≤ 2 := fun is => depthA_all fun d hd => by
    obtain ⟨i, hi, rfl⟩ := List.mem_map.mp hd
    exact depth_itm i
  cases s with
  | non => simp [Sm.d, PyData.depth]
  | three => simp [Sm.d, PyData.depth]
  | lst is =>
    have := key is
    simp only [Sm.d, PyData.depth]
    omega
  | tup is =>
    have := key is
    simp only [Sm.d, PyData.depth]
    omega
def Sm.noTup : Sm → Prop
  | .tup _ => False
  | _ => True
theorem hP_hL {m n : Mc} {s : Sm} {bk : Bk} (hp : m.p = n.p) (hs : s.noTup) : hP m n s bk = hL m n s bk := by
  cases s with
  | non => rfl
  | three => rfl
  | lst is =>
    show (is.all Itm.isP && holdsP m n (prsI is) bk) = (is.all Itm.isP && holdsL m n (prsI is) bk)
    rw [holds_eq m n hp]
  | tup is => exact hs.elim
theorem bk_leaf (bk : Bk) : isSeq bk.d = false := by cases bk <;> rfl
theorem hbkv {K : PySem.W.Frag} {H : Hp} {v : V} {bk : Bk} (h : Dp K H v bk.d) (G : Hp) : Dp K G v bk.d := by
  cases bk with
  | non => cases h; exact .non
  | bl b => cases h; exact .bl b
  | num i => cases h; exact .int i
theorem bk_wid (bk : Bk) : wid bk.d = true := by cases bk <;> simp [Bk.d, wid]
theorem bk_depth (bk : Bk) : bk.d.depth = 0 := by cases bk <;> simp [Bk.d, PyData.depth]
theorem bk_ok (bk : Bk) : okD bk.d = true := by cases bk <;> simp only [Bk.d, okD]
def its (m n : Mc) (k : Nat) : List Itm := (List.range k).map fun i => Itm.pr (cIter m i) (some (cIter n i))
theorem its_len (m n : Mc) (k : Nat) : (its m n k).length = k := by unfold its; rw [List.length_map, List.length_range]
theorem its_get (m n : Mc) {k i : Nat} (h : i < k) : (its m n k)[i]? = some (Itm.pr (cIter m i) (some (cIter n i))) := by
  unfold its
  rw [List.getElem?_map, List.getElem?_range h]
  rfl
theorem its_succ (m n : Mc) (k : Nat) : its m n (k + 1) = its m n k ++ [Itm.pr (cIter m k) (some (cIter n k))] := by
  unfold its
  rw [List.range_succ, List.map_append]
  rfl
theorem its_ok {m n : Mc} (hm : m.rows.length ≤ 64) (hn : n.rows.length ≤ 64) (k : Nat) : ∀ i ∈ its m n k, i.ok := fun i hi => by
  obtain ⟨j, _, rfl⟩ := List.mem_map.mp hi
  exact ⟨by rw [cIter_length]; omega, fun b e => by cases e; rw [cIter_length]; omega⟩
theorem SB.news {H : Hp} {b p : Addr} {o : HO} (h : H p = none) : SB b H (L2.upd H p o) := ((Same.refl H).new h).sb b
theorem nw_hide {Ha Hb Hd : Hp} {lr : Addr} {o : HO} (h : Ha lr = some o) (e : Same Hb Hd) : Same (nw Ha Hb) (hide lr Hd) := fun a u hu => by
  obtain ⟨h1, h2⟩ := nw_inv hu
  rw [hide_ne (fun ab => by rw [ab, h] at h1; cases h1)]
  exact e _ _ h2
def DueOk (H : Hp) (w : V) : Prop := w = .non ∨ ∃ t lf u, w = .ref t ∧ H t = some (.tup [.ref lf, u]) ∧ (u = .non ∨ ∃ k : Nat, u = .int k)
theorem DueOk.tt {H H' : Hp} {w : V} (h : DueOk H w) (e : TT H H') : DueOk H' w := by
  rcases h with h | ⟨t, lf, u, h1, h2, h3⟩
  · exact .inl h
  · exact .inr ⟨t, lf, u, h1, e _ _ h2, h3⟩
structure LS (K : PySem.W.Frag) (H : Hp) (b c : Addr) (vm vn : V) (m n : Mc) (lr : Addr) (vs : List V) (is : List Itm) (w : V) : Prop where
  bag : BagC H b c
  m : MOk K H vm m
  n : MOk K H vn n
  row : H lr = some (.lst vs)
  nlr : lr ≠ b
  da : DpAll K H vs (is.map Itm.d)
  due : DueOk H w
theorem LS.step {K : PySem.W.Frag} {H H' : Hp} {b c : Addr} {vm vn : V} {m n : Mc} {lr : Addr} {vs : List V} {is : List Itm} {w : V} (h : LS K H b c vm vn m n lr vs is w) (e : SB b H H') (hB : BagC H' b c) : LS K H' b c vm vn m n lr vs is w :=
  ⟨hB, h.m.bag h.bag e, h.n.bag h.bag e, e.ne h.nlr h.row, h.nlr, DpAll.bag h.bag.at' e _ _ (okA_itms is) h.da, h.due.tt (SB.tt e h.bag)⟩
theorem LS.same {K : PySem.W.Frag} {H H' : Hp} {b c : Addr} {vm vn : V} {m n : Mc} {lr : Addr} {vs : List V} {is : List Itm} {w : V} (h : LS K H b c vm vn m n lr vs is w) (e : Same H H') : LS K H' b c vm vn m n lr vs is w :=
  h.step (e.sb b) (h.bag.same e)
theorem seq_j3 {t1 t2 t3 u : TS} {D : Ends} {σ : St} {H : Hp} (J : St → Hp → Prop) (h2 : ∀ σ' H', J σ' H' → u D σ' H') (h1 : (∀ σ' H', J σ' H' → u D σ' H') → tSeq t1 (tSeq t2 (tSeq t3 u)) D σ H) : tSeq t1 (tSeq t2 (tSeq t3 u)) D σ H := h1 h2
theorem seq_j2 {t1 t2 u : TS} {D : Ends} {σ : St} {H : Hp} (J : St → Hp → Prop) (h2 : ∀ σ' H', J σ' H' → u D σ' H') (h1 : (∀ σ' H', J σ' H' → u D σ' H') → tSeq t1 (tSeq t2 u) D σ H) : tSeq t1 (tSeq t2 u) D σ H := h1 h2
theorem ixL_of {K : PySem.W.Frag} {H : Hp} {l : Addr} {xs : List V} {j : Nat} {v : V} {Q : VK} (h : SqL K H l xs) (hv : xs[j]? = some v) (q : Q v H) : rIxL K (.ref l) (.int (j : Int)) H Q := ⟨l, xs, _, v, rfl, rfl, h, at_of (j := j) rfl hv, q⟩
theorem cons_join {ta : TE} {tr : TA} {σ : St} {H : Hp} {Q : List V → Hp → Prop} (S : V → Hp → Prop) (h1 : ∀ Q' : VK, (∀ x H', S x H' → Q' x H') → ta σ H Q') (h2 : ∀ x H', S x H' → tr σ H' fun xs H'' => Q (x :: xs) H'') : tCons ta tr σ H Q := h1 _ h2
section
variable {X : Cx} {m : Str} {k : Nat} {ps : List Str} {sp : Sp} {C : Addr}
theorem call_reprK (F : KnownM X.prog X.w X.K X.mg X.base C "__repr__" k ps sp) (hr : Room (k + 1) X.A) : CallR X (.builtin "repr") (rOwn C sp E0 fun v => ∃ x : Str, v = .str x) := by
  obtain ⟨f, fd, F, hm, hb⟩ := F
  exact call_reprOwn F hr hb pass0 hm.at_ hm.fn
theorem op_neOwnK (F : KnownM X.prog X.w X.K X.mg X.base C "__eq__" k ps sp) (hr : Room (k + 1) X.A) (hn : PySem.W.findIn X.K (.ref C) "__ne__" = some (some (.builtin "object.__ne__"))) (hmr : PySem.W.mroIn X.K C (.type "object") = some true) : OpR X (compareOp .NotEq) (rNeOwn C sp E0) := by
  obtain ⟨f, fd, F, hm, hb⟩ := F
  exact op_neOwn F hr hb pass0 hn hm.at_ hm.fn hmr
end
theorem cut_dp {K : PySem.W.Frag} {H : Hp} {vs : List V} {is : List Itm} (h : DpAll K H vs (is.map Itm.d)) (lo hi : Option Int) : ∃ is' : List Itm, DpAll K H (cutV vs lo hi) (is'.map Itm.d) ∧ is'.length ≤ is.length ∧ ∀ i ∈ is', i ∈ is := by
  unfold cutV
  refine ⟨(is.drop (HT.sIx vs.length 0 lo)).take (HT.sIx vs.length vs.length hi - HT.sIx vs.length 0 lo), ?_, ?_, fun i hi' => List.mem_of_mem_drop (List.mem_of_mem_take hi')⟩
  · rw [List.map_take, List.map_drop]
    exact dpa_take _ (dpa_drop _ h)
  · rw [List.length_take, List.length_drop]
    omega
theorem sub_sm {K : PySem.W.Frag} {H : Hp} {a : Addr} {xs : List V} {is : List Itm} (h : H a = some (.lst xs)) (hd : DpAll K H xs (is.map Itm.d)) (hl : is.length ≤ 1000) (hok : ∀ i ∈ is, i.ok) : ∃ s : Sm, Dp K H (.ref a) s.d ∧ s.ok ∧ s.noTup :=
  ⟨.lst is, .lst (SqL.of h) hd, ⟨hl, hok⟩, trivial⟩
theorem lenD_sm {s : Sm} (h : s.ok) : lenD s.d ≤ 1000 := by
  cases s with
  | non => exact Nat.zero_le _
  | three => exact Nat.zero_le _
  | lst is =>
    show (is.map Itm.d).length ≤ 1000
    rw [List.length_map]
    exact h.1
  | tup is =>
    show (is.map Itm.d).length ≤ 1000
    rw [List.length_map]
    exact h.1
theorem log_small {k : Nat} (h : k ≤ 100000) : ((k : Nat) : Int).natAbs.log2 < 1920 := by
  rw [Int.natAbs_natCast]
  by_cases h0 : k = 0
  · rw [h0]; decide
  · have : k.log2 < 17 := (Nat.log2_lt h0).mpr (by omega)
    omega
theorem repr_eq (k : Nat) : (("Match(" : Str) ++ (toString (k : Int) : Str)) ++ (" pairs)" : Str) = reprS k := by
  have h : Str.empty ++ ("Match(" : Str) = "Match(" := by decide +kernel
  show _ = ((Str.empty ++ ("Match(" : Str)) ++ (toString (k : Int) : Str)) ++ (" pairs)" : Str)
  rw [h]
theorem repr_len {k : Nat} (h : k ≤ 100000) : ("Match(" : Str).length + (toString (k : Int) : Str).length ≤ sizeLine ∧ (("Match(" : Str) ++ (toString (k : Int) : Str)).length + (" pairs)" : Str).length ≤ sizeLine := by
  have h1 : (Str.ofString (toString (k : Int))).length ≤ 6 := toString_length_le (by omega) (by decide) (by omega)
  have h2 : ("Match(" : Str).length ≤ 100 := by decide +kernel
  have h3 : (" pairs)" : Str).length ≤ 100 := by decide +kernel
  have e : (("Match(" : Str) ++ (toString (k : Int) : Str)).length = ("Match(" : Str).length + (Str.ofString (toString (k : Int))).length := Str.length_append _ _
  refine ⟨Nat.le_trans (Nat.add_le_add h2 h1) (by decide), ?_⟩
  rw [e]
  exact Nat.le_trans (Nat.add_le_add (Nat.add_le_add h2 h1) h3) (by decide)
abbrev bothI : List Itm := [.pr [1, 0] (some [1, 0]), .pr [1, 1] (some [1, 2])]
theorem both_holds : hP (odo 2) (odo 3) (.lst bothI) (.num 1) = false := by decide
theorem both_ok : ∀ i ∈ bothI, i.ok := fun i hi => by
  have h : i = .pr [1, 0] (some [1, 0]) ∨ i = .pr [1, 1] (some [1, 2]) := by simpa using hi
  rcases h with rfl | rfl
  · exact ⟨by decide, fun b e => by cases e; decide⟩
  · exact ⟨by decide, fun b e => by cases e; decide⟩
theorem disp4 {K : PySem.W.Frag} (a1 a2 a3 a4 : List Int) {H0 H1 H2 H3 H4 H5 H6 : Hp} {l1 l2 t1 l3 l4 t2 : Addr} (n1 : H0 l1 = none) (r1 : H1 = upd H0 l1 (.lst (a1.map V.int))) (n2 : H1 l2 = none) (r2 : H2 = upd H1 l2 (.lst (a2.map V.int))) (n3 : H2 t1 = none) (r3 : H3 = upd H2 t1 (.tup [.ref l1, .ref l2]))
    (n4 : H3 l3 = none) (r4 : H4 = upd H3 l3 (.lst (a3.map V.int))) (n5 : H4 l4 = none) (r5 : H5 = upd H4 l4 (.lst (a4.map V.int))) (n6 : H5 t2 = none) (r6 : H6 = upd H5 t2 (.tup [.ref l3, .ref l4])) :
    Same H0 H6 ∧ DpAll K H6 [.ref t1, .ref t2] ([Itm.pr a1 (some a2), Itm.pr a3 (some a4)].map Itm.d) := by
  have e1 : Same H0 H1 := by rw [r1]; exact (Same.refl _).new n1
  have e2 : Same H1 H2 := by rw [r2]; exact (Same.refl _).new n2
  have e3 : Same H2 H3 := by rw [r3]; exact (Same.refl _).new n3
  have e4 : Same H3 H4 := by rw [r4]; exact (Same.refl _).new n4
  have e5 : Same H4 H5 := by rw [r5]; exact (Same.refl _).new n5
  have e6 : Same H5 H6 := by rw [r6]; exact (Same.refl _).new n6
  have q1 : H1 l1 = some (.lst (a1.map V.int)) := by rw [r1, upd_same]
  have q2 : H2 l2 = some (.lst (a2.map V.int)) := by rw [r2, upd_same]
  have q3 : H3 t1 = some (.tup [.ref l1, .ref l2]) := by rw [r3, upd_same]
  have q4 : H4 l3 = some (.lst (a3.map V.int)) := by rw [r4, upd_same]
  have q5 : H5 l4 = some (.lst (a4.map V.int)) := by rw [r5, upd_same]
  have q6 : H6 t2 = some (.tup [.ref l3, .ref l4]) := by rw [r6, upd_same]
  have b5 := e5.trans e6
  have b4 := e4.trans b5
  have b3 := e3.trans b4
  have b2 := e2.trans b3
  refine ⟨e1.trans b2, ?_⟩
  exact .cons (.tup (SqT.of (b4 _ _ q3)) (.cons (dI_mk (SqL.of (b2 _ _ q1))) (.cons (dI_mk (SqL.of (b3 _ _ q2))) .nil))) (.cons (.tup (SqT.of q6) (.cons (dI_mk (SqL.of (b5 _ _ q4))) (.cons (dI_mk (SqL.of (e6 _ _ q5))) .nil))) .nil)
section
variable {P : Program} {w : World} {K : PySem.W.Frag} {mg : Str → Option Value} {base : Heap} {CT CM : Addr}
def spLaw (K : PySem.W.Frag) : Sp := fun vs H Q _ => ∃ (a : Addr) (ns : List Int), vs = [.ref a] ∧ SqL K H a (ns.map V.int) ∧ ns.length ≤ 63 ∧ ∀ H', Q (.bl true) H'
theorem k_law {fa : Addr} {fda : FuncData} (R : Fun K "law" "law" s_law fa fda) (B : Bl mg) (T : MF K mg CM) (TT' : TF K mg CT) (TE' : TE1 K CT) (hne : PySem.W.findIn K (.ref CT) "__ne__" = some (some (.builtin "object.__ne__"))) (FC : KnownC P w K mg base CT CM)
    (Fbag : Known P w K mg base "_law_bag" 1 ["_law_script"] (spBag K)) (Fpull : Known P w K mg base "_law_pull" 1 ["_law_bag_here", "_law_many"] spPull) (Fof : Known P w K mg base "_law_of" 2 ["_law_bag_here", "_law_some"] spOf) (Fprime : Known P w K mg base "_law_prime" 3 ["_law_bag_here"] spLPrime)
    (Fsingle : Known P w K mg base "_law_single" 4 ["_law_bag_here", "_law_p"] (spSingle K)) (Fdoub : Known P w K mg base "_law_doubled" 3 ["_law_bag_here", "_law_m"] (spDoubled K)) (Fundo : Known P w K mg base "_law_undone" 1 ["_law_m"] (spUndone K))
    (Frows : Known P w K mg base "_law_rows_of" 2 ["_law_m", "_law_many"] (spRowsOf K)) (Fdec : Known P w K mg base "_law_decided" 2 ["_law_m", "_law_top"] (spDecided K)) (Fmade : Known P w K mg base "_law_made" 7 ["_law_m"] (spMade K CT)) (Fsame : ∀ n, Known P w K mg base "_law_same" (n + 1) ["_law_found", "_law_due"] (spSame K n))
    (Fjud : Known P w K mg base "_law_match_holds" 5 ["_law_m", "_law_n", "_law_some", "_law_back_z"] (spLMatch K)) (Fodo : Known P w K mg base "_law_odometer" 1 ["_law_p"] (spOdo K)) (Fso : Known P w K mg base "_law_match_lists_so" 9 ["_law_three_z"] (spSo K CT))
    (Fpairs : KnownP P w K mg base CM "pairs" 5 (spMPairs K CT CM)) (Fback : KnownP P w K mg base CM "back" 2 (spMBack K CT CM)) (Fone : KnownP P w K mg base CM "one" 1 (spMOne K CT CM)) (Foth : KnownP P w K mg base CM "other" 1 (spMOther K CT CM))
    (Flen : KnownM P w K mg base CM "__len__" 2 ["self"] (spMLen K CT CM)) (Frep : KnownM P w K mg base CM "__repr__" 4 ["self"] (spMRepr K CT CM)) (Fhold : KnownM P w K mg base CM "holds" 8 ["self"] (spHolds K CT CM)) (Feq : KnownM P w K mg base CT "__eq__" 3 ["self", "other"] (spTEq K CT)) :
    FnOk P w K mg base CX0 10 fa fda ["_law_script"] (spLaw K) := by
  refine R.ok sc_law (fun vs H Q E h => by obtain ⟨_, _, rfl, _⟩ := h; rfl) (fun cdv A outer s H vs Q E hr h => ?_)
  obtain ⟨sc, ns, rfl, hsc, hns, q⟩ := h
  have nd := sc_law.nd
  refine ⟨_, pss_cons (ps_set (i := 1) nd rfl (Or.inl rfl) (pk (Fbag.mono (by decide : 1 ≤ 9)) hr (by rfl) (pa_cons (pv 0) pa_nil)))
    (pss_cons (ps_for PassesOwn.never rfl (pi_range1 (by rfl) B.range (pa_cons pe_int pa_nil)) (pg_name (i := 2) nd rfl (Or.inl rfl))
      (pss_cons (ps_set (i := 3) nd rfl (Or.inl rfl) (pk (Fprime.mono (by decide : 3 ≤ 9)) hr (by rfl) (pa_cons (pv 1) pa_nil)))
      (pss_cons (ps_set (i := 4) nd rfl (Or.inr rfl) (pk (Fsingle.mono (by decide : 4 ≤ 9)) hr (by rfl) (pa_cons (pv 1) (pa_cons (pv 3) pa_nil))))
      (pss_cons (ps_set (i := 5) nd rfl (Or.inr rfl) (pk (Fof.mono (by decide : 2 ≤ 9)) hr (by rfl) (pa_cons (pv 1) (pa_cons (pe_lst (pa_cons (pk (Fsingle.mono (by decide : 4 ≤ 9)) hr (by rfl) (pa_cons (pv 1) (pa_cons (pv 3) pa_nil)))
        (pa_cons (pk (Fdoub.mono (by decide : 3 ≤ 9)) hr (by rfl) (pa_cons (pv 1) (pa_cons (pv 4) pa_nil))) (pa_cons (pk (Fundo.mono (by decide : 1 ≤ 9)) hr (by rfl) (pa_cons (pv 4) pa_nil)) pa_nil)))) pa_nil))))
      (pss_cons (ps_set (i := 6) nd rfl (Or.inl rfl) (pe_lst pa_nil))
      (pss_cons (ps_for PassesOwn.never rfl (pi_range1 (by rfl) B.range (pa_cons (pe_op op_add pe_int (pk (Fpull.mono (by decide : 1 ≤ 9)) hr (by rfl) (pa_cons (pv 1) (pa_cons pe_int pa_nil)))) pa_nil)) (pg_name (i := 7) nd rfl (Or.inl rfl))
        (pss_one (ps_expr (pe_bm PySem.F.plainAttrs_list PySem.F.slot_list_append PySem.F.type_list_append mt_append (pv 6) (pa_cons (pe_tup (pa_cons
          (pe_ix ix_list (pk (Frows.mono (by decide : 2 ≤ 9)) hr (by rfl) (pa_cons (pv 4) (pa_cons (pe_op op_add (pv 7) pe_int) pa_nil))) (pv 7) (fun _ _ => rfl))
          (pa_cons (pe_ix ix_list (pk (Frows.mono (by decide : 2 ≤ 9)) hr (by rfl) (pa_cons (pv 5) (pa_cons (pe_op op_add (pv 7) pe_int) pa_nil))) (pv 7) (fun _ _ => rfl)) pa_nil))) pa_nil)))))
      (pss_cons (ps_set (i := 8) nd rfl (Or.inl rfl) (pk (Fdec.mono (by decide : 2 ≤ 9)) hr (by rfl) (pa_cons (pv 4) (pa_cons pe_int pa_nil))))
      (pss_cons (ps_set (i := 6) nd rfl (Or.inl rfl) (pe_ifExp (PW.pt (pw_or (pt_cmpR op_isN (pv 8) pe_non (nomark _)) (pw_or1 (pt_cmpR op_eq (pk (Fpull.mono (by decide : 1 ≤ 9)) hr (by rfl) (pa_cons (pv 1) (pa_cons pe_int pa_nil))) pe_int (nomark _))))) (pv 6)
        (pe_lc (own := [("_law_k", 7)]) (g := gName 7) (tt := tYes) rfl nd (pi_range1 (by rfl) B.range (pa_cons (pe_callB call_len_seq (by rfl) B.len PySem.boot_len (pa_cons (pe_ix ix_tup (pv 8) pe_int (fun _ _ => rfl)) pa_nil)) pa_nil)) (blkOk_by (N := N_law) (sc := defScope s_law) (by decide +kernel)) (fun _ _ _ _ _ => pg_name (i := 7) nd rfl (Or.inl rfl)) (fun _ _ _ _ _ => pts_nil)
          (fun _ _ _ _ _ => pe_tup (pa_cons (pe_ix (ixL (K := K)) (pk (Frows.mono (by decide : 2 ≤ 9)) hr (by rfl) (pa_cons (pv 4) (pa_cons (pe_op op_add (pv 7) pe_int) pa_nil))) (pv 7) (fun _ _ => rfl))
            (pa_cons (pe_ix (ixL (K := K)) (pk (Frows.mono (by decide : 2 ≤ 9)) hr (by rfl) (pa_cons (pv 5) (pa_cons (pe_op op_add (pv 7) pe_int) pa_nil))) (pv 7) (fun _ _ => rfl)) pa_nil))))))
      (pss_cons (ps_set (i := 9) nd rfl (Or.inl rfl) (pk (Fpull.mono (by decide : 1 ≤ 9)) hr (by rfl) (pa_cons (pv 1) (pa_cons (pe_callB call_len_seq (by rfl) B.len PySem.boot_len (pa_cons (pv 6) pa_nil)) pa_nil))))
      (pss_cons (ps_set (i := 10) nd rfl (Or.inl rfl) (pk (Fof.mono (by decide : 2 ≤ 9)) hr (by rfl) (pa_cons (pv 1) (pa_cons (pe_lst (pa_cons
          (pe_tup (pa_cons (pe_ix ix_tup (pe_ix ix_list (pv 6) (pv 9) (fun _ _ => rfl)) pe_int (fun _ _ => rfl)) (pa_cons (pe_ix ix_tup (pe_ix ix_list (pv 6) (pv 9) (fun _ _ => rfl)) pe_int (fun _ _ => rfl)) pa_nil))) (pa_cons
          (pe_callTy call_list_of (by rfl) B.list (by decide +kernel) (pa_cons (pe_ix ix_list (pv 6) (pv 9) (fun _ _ => rfl)) pa_nil)) (pa_cons
          (pe_ix ix_tup (pe_ix ix_list (pv 6) (pv 9) (fun _ _ => rfl)) pe_int (fun _ _ => rfl)) (pa_cons
          (pe_tup (pa_cons (pe_ix ix_tup (pe_ix ix_list (pv 6) (pv 9) (fun _ _ => rfl)) pe_int (fun _ _ => rfl)) pa_nil)) (pa_cons
          (pe_tup (pa_cons (pe_ix ix_tup (pe_ix ix_list (pv 6) (pv 9) (fun _ _ => rfl)) pe_int (fun _ _ => rfl)) (pa_cons pe_non pa_nil))) (pa_cons pe_non pa_nil))))))) pa_nil))))
      (pss_cons (ps_set (i := 11) nd rfl (Or.inl rfl) (pk (Fof.mono (by decide : 2 ≤ 9)) hr (by rfl) (pa_cons (pv 1) (pa_cons (pe_lst (pa_cons (pv 6) (pa_cons (pv 6) (pa_cons (pv 6) (pa_cons
          (pe_op op_cat (pe_op op_cat (pe_slice sl_list (pv 6) po_none (po_some (pv 9))) (pe_lst (pa_cons (pv 10) pa_nil))) (pe_slice sl_list (pv 6) (po_some (pe_op op_add (pv 9) pe_int)) po_none)) (pa_cons
          (pe_revL (pv 6)) (pa_cons (pe_lst pa_nil) (pa_cons pe_non (pa_cons pe_int (pa_cons (pe_slice sl_list (pv 6) (po_some pe_int) po_none) (pa_cons (pe_slice sl_list (pv 6) po_none (po_some (pe_un un_neg pe_int))) (pa_cons
          (pe_op op_cat (pv 6) (pv 6)) pa_nil)))))))))))) pa_nil))))
      (pss_cons (ps_set (i := 12) nd rfl (Or.inl rfl) (pk (Fof.mono (by decide : 2 ≤ 9)) hr (by rfl) (pa_cons (pv 1) (pa_cons (pe_lst (pa_cons
          (pk (Fpull.mono (by decide : 1 ≤ 9)) hr (by rfl) (pa_cons (pv 1) (pa_cons (pe_op op_add (pe_callB call_len_seq (by rfl) B.len PySem.boot_len (pa_cons (pv 6) pa_nil)) pe_int) pa_nil))) (pa_cons
          (pe_op op_sub (pe_callB call_len_seq (by rfl) B.len PySem.boot_len (pa_cons (pv 6) pa_nil)) pe_int) (pa_cons
          (pe_ifExp (PW.pt (pw_or (pt_cmpR op_isN (pv 8) pe_non (nomark _)) (pw_or1 (pt_cmpR op_isN (pe_ix ix_tup (pv 8) pe_int (fun _ _ => rfl)) pe_non (nomark _))))) pe_int (pe_ix ix_tup (pv 8) pe_int (fun _ _ => rfl))) (pa_cons
          pe_non (pa_cons (pe_un un_neg pe_int) (pa_cons pe_bl pa_nil))))))) pa_nil))))
      (pss_cons (ps_set (i := 13) nd rfl (Or.inl rfl) (pe_ifExp (pt_val (pe_callB call_isi (by rfl) B.isi (by decide +kernel) (pa_cons (pv 11) (pa_cons (pe_bltn (v := .ty "list") (by rfl) B.list (by decide +kernel) rfl) pa_nil)))) (pe_callTy call_list_of (by rfl) B.list (by decide +kernel) (pa_cons (pv 11) pa_nil)) (pv 11)))
      (pss_cons (ps_par (i := 14) (j := 15) (by rfl) nd rfl rfl (by decide) rfl rfl (pa_cons (pkMatch FC (hr.mono (by decide : 6 ≤ 9)) (by rfl) (pa_cons (pk (Fmade.mono (by decide : 7 ≤ 9)) hr (by rfl) (pa_cons (pv 4) pa_nil)) (pa_cons (pk (Fmade.mono (by decide : 7 ≤ 9)) hr (by rfl) (pa_cons (pv 5) pa_nil)) (pa_cons (pv 13) (pa_cons (pv 12) pa_nil)))))
          (pa_cons (pe_ifExp (pt_val (pe_callB call_isi (by rfl) B.isi (by decide +kernel) (pa_cons (pv 11) (pa_cons (pe_bltn (v := .ty "list") (by rfl) B.list (by decide +kernel) rfl) pa_nil)))) (pe_callB call_len_seq (by rfl) B.len PySem.boot_len (pa_cons (pv 11) pa_nil)) pe_int) pa_nil)) (by rfl))
      (pss_cons (ps_if (pt_val (pe_callB call_isi (by rfl) B.isi (by decide +kernel) (pa_cons (pv 13) (pa_cons (pe_bltn (v := .ty "list") (by rfl) B.list (by decide +kernel) rfl) pa_nil)))) (pss_one (ps_expr (pe_bm PySem.F.plainAttrs_list PySem.F.slot_list_append PySem.F.type_list_append mt_append (pv 13) (pa_cons pe_int pa_nil)))) pss_nil)
      (pss_cons (ps_if (pt_not (pt_val (pk ((Fsame 4).mono (by decide : 5 ≤ 9)) hr (by rfl) (pa_cons (pe_lst (pa_cons (pkm0 (pv 14) T.cl Fhold (hr.mono (by decide))) (pa_cons (pkp (pv 14) T.cl Fpairs (hr.mono (by decide))) (pa_cons (pkp (pv 14) T.cl Fback (hr.mono (by decide))) (pa_cons
            (pe_callB (call_lenK Flen (hr.mono (by decide))) (by rfl) B.len PySem.boot_len (pa_cons (pv 14) pa_nil)) (pa_cons (pe_callB (call_reprK Frep (hr.mono (by decide))) (by rfl) B.repr (by decide +kernel) (pa_cons (pv 14) pa_nil)) pa_nil))))))
          (pa_cons (pe_lst (pa_cons (pk (Fjud.mono (by decide : 5 ≤ 9)) hr (by rfl) (pa_cons (pv 4) (pa_cons (pv 5) (pa_cons (pv 11) (pa_cons (pv 12) pa_nil))))) (pa_cons (pv 11) (pa_cons (pv 12) (pa_cons (pv 15) (pa_cons
            (pe_op op_add_str (pe_op op_add_str pe_str (pe_callTy call_str_int (by rfl) B.str (by decide +kernel) (pa_cons (pv 15) pa_nil))) pe_str) pa_nil)))))) pa_nil))))) pss_never pss_nil)
      (pss_one (ps_if (PW.pt (pw_or (pt_cmpR (op_neOwnK Feq (hr.mono (by decide)) hne TE'.hm) (pkp (pv 14) T.cl Fone (hr.mono (by decide))) (pk (Fmade.mono (by decide : 7 ≤ 9)) hr (by rfl) (pa_cons (pv 4) pa_nil)) (nomark _))
          (pw_or1 (pt_cmpR (op_neOwnK Feq (hr.mono (by decide)) hne TE'.hm) (pkp (pv 14) T.cl Foth (hr.mono (by decide))) (pk (Fmade.mono (by decide : 7 ≤ 9)) hr (by rfl) (pa_cons (pv 5) pa_nil)) (nomark _))))) pss_never pss_nil))))))))))))))))))
    (pss_cons (ps_par (i := 16) (j := 17) (by rfl) nd rfl rfl (by decide) rfl rfl (pa_cons (pk (Fmade.mono (by decide : 7 ≤ 9)) hr (by rfl) (pa_cons (pk (Fodo.mono (by decide : 1 ≤ 9)) hr (by rfl) (pa_cons pe_int pa_nil)) pa_nil)) (pa_cons (pk (Fmade.mono (by decide : 7 ≤ 9)) hr (by rfl) (pa_cons (pk (Fodo.mono (by decide : 1 ≤ 9)) hr (by rfl) (pa_cons pe_int pa_nil)) pa_nil)) pa_nil)) (by rfl))
    (pss_cons (ps_set (i := 18) nd rfl (Or.inl rfl) (pe_lst (pa_cons (pe_tup (pa_cons (pe_lst (pa_cons pe_int (pa_cons pe_int pa_nil))) (pa_cons (pe_lst (pa_cons pe_int (pa_cons pe_int pa_nil))) pa_nil))) (pa_cons (pe_tup (pa_cons (pe_lst (pa_cons pe_int (pa_cons pe_int pa_nil))) (pa_cons (pe_lst (pa_cons pe_int (pa_cons pe_int pa_nil))) pa_nil))) pa_nil))))
    (pss_cons (ps_set (i := 19) nd rfl (Or.inl rfl) (pe_lst (pa_cons (pkm0 (pkMatch FC (hr.mono (by decide : 6 ≤ 9)) (by rfl) (pa_cons (pv 16) (pa_cons (pv 17) (pa_cons (pv 18) (pa_cons pe_int pa_nil))))) T.cl Fhold (hr.mono (by decide))) (pa_cons
        (pkm0 (pkMatch FC (hr.mono (by decide : 6 ≤ 9)) (by rfl) (pa_cons (pv 17) (pa_cons (pv 17) (pa_cons (pe_lst (pa_cons (pe_tup (pa_cons (pe_lst (pa_cons pe_int (pa_cons pe_int pa_nil))) (pa_cons (pe_lst (pa_cons pe_int (pa_cons pe_int pa_nil))) pa_nil))) (pa_cons (pe_tup (pa_cons (pe_lst (pa_cons pe_int (pa_cons pe_int pa_nil))) (pa_cons (pe_lst (pa_cons pe_int (pa_cons pe_int pa_nil))) pa_nil))) pa_nil))) (pa_cons pe_int pa_nil))))) T.cl Fhold (hr.mono (by decide))) pa_nil))))
    (pss_one (ps_ret (pe_and (pk ((Fsame 1).mono (by decide : 2 ≤ 9)) hr (by rfl) (pa_cons (pv 19) (pa_cons (pe_lst (pa_cons pe_bl (pa_cons pe_bl pa_nil))) pa_nil))) (pe_one (pk Fso hr (by rfl) (pa_cons (pv 17) pa_nil)))))))))), ?_⟩
  refine ⟨_, rfl, sc, ns, rfl, hsc, fun b c H0 e0 hb0 hB0 => ?_⟩
  refine ⟨_, rfl, by decide, by decide, for_it (walk_range (lo := 0)) (fun i σ H' => ∃ (o2 o3 o4 o5 o6 o7 o8 o9 o10 o11 o12 o13 o14 o15 : Option V), σ = [some (.ref sc), some (.ref b), o2, o3, o4, o5, o6, o7, o8, o9, o10, o11, o12, o13, o14, o15, none, none, none, none] ∧ BagC H' b c)
    ⟨_, _, _, _, _, _, _, _, _, _, _, _, _, _, rfl, hB0⟩ (fun _ _ _ _ _ => trivial) ?_ ?_⟩
  · rintro i y σ Hx H1 hi ⟨o2, o3, o4, o5, o6, o7, o8, o9, o10, o11, o12, o13, o14, o15, rfl, hB⟩ ⟨rfl, rfl⟩
    refine ⟨_, rfl, b, c, rfl, hB, fun H2 p e2 hB2 hp => ?_⟩
    refine ⟨_, rfl, _, rfl, b, c, p, rfl, hB2, hp, fun H3 tm m e3 hB3 hm hmp hml => ?_⟩
    refine ⟨_, rfl, _, rfl, _, rfl, b, c, p, rfl, hB3, hp, fun H4 t1 n1 e4 hB4 hn1 hn1p hn1l => ?_⟩
    have hm4 := hm.bag hB3 e4
    refine ⟨_, rfl, _, rfl, b, c, .ref tm, m, rfl, hB4, hm4, hml, fun H5 t2 n2 e5 hB5 hn2 hn2p => ?_⟩
    have hm5 := hm4.bag hB4 e5
    have hn15 := hn1.bag hB4 e5
    refine ⟨_, rfl, .ref tm, m, rfl, hm5, fun H6 t3 n3 e6 hn3 hn3p hn3l => ⟨by show 3 ≤ sizeLine; decide, fun l hl => ?_⟩⟩
    have e6l : Same H6 (upd H6 l (.lst [.ref t1, .ref t2, .ref t3])) := (Same.refl H6).new hl
    have hB6 := (hB5.same e6).same e6l
    refine ⟨b, c, l, _, rfl, hB6, upd_same, ((hB5.same e6).ne hl).1, fun h => (by cases h), by show 3 ≤ 1000000; decide, fun H7 vn e7 hB7 hvn => ?_⟩
    obtain ⟨n, hn, hnp⟩ : ∃ n, MOk K H7 vn n ∧ m.p = n.p := by
      simp only [List.mem_cons, List.not_mem_nil, or_false] at hvn
      rcases hvn with rfl | rfl | rfl
      · exact ⟨n1, (hn15.same (e6.trans e6l)).bag hB6 e7, by rw [hmp, hn1p]⟩
      · exact ⟨n2, (hn2.same (e6.trans e6l)).bag hB6 e7, hn2p.symm⟩
      · exact ⟨n3, (hn3.same e6l).bag hB6 e7, hn3p.symm⟩
    have hm7 := (hm5.same (e6.trans e6l)).bag hB6 e7
    clear hm hm4 hm5 hn1 hn15 hn2 hn3 hvn e4 e5 e6 e6l hB6 e7 e2 e3 hB hB2 hB3 hB4 hB5 hn1p hn1l hn2p hn3p hn3l hl
    have hsm := hm7.wf.small
    have hsn := hn.wf.small
    refine ⟨by show 0 ≤ sizeLine; decide, fun lr hlr => ?_⟩
    have nlr := hB7.ne hlr
    have e8 : Same H7 (upd H7 lr (.lst [])) := (Same.refl H7).new hlr
    have hr8 : (upd H7 lr (.lst [])) lr = some (.lst []) := upd_same
    have hB8 := hB7.same e8
    generalize upd H7 lr (.lst []) = H8 at *
    refine ⟨_, rfl, b, c, 6, rfl, hB8, by decide, by decide, fun H9 k e9 hB9 hk => ⟨_, _, rfl, rfl, ?_⟩⟩
    have hr9 := e9.ne nlr.1 hr8
    have e79 : SB b H7 (hide lr H9) := fun a o na ha => by
      rw [hide_ne (ne_of_none ha hlr)]
      exact e9 a o na (e8 _ _ ha)
    have hm9 : MOk K (hide lr H9) (.ref tm) m := hm7.bag hB7 e79
    have hn9 : MOk K (hide lr H9) vn n := hn.bag hB7 e79
    have hB9h : BagC (hide lr H9) b c := by
      obtain ⟨cells, i, big, mix, dr, g1, g2, g3⟩ := hB9
      exact ⟨cells, i, big, mix, dr, by rw [hide_ne (fun e => nlr.1 e.symm)]; exact g1, by rw [hide_ne (fun e => nlr.2 e.symm)]; exact g2, g3⟩
    refine ⟨_, rfl, by show -(2 ^ 62) ≤ 1 + (k : Int); omega, by show 1 + (k : Int) < 2 ^ 62; omega, for_it (walk_range (lo := 0)) (fun i2 σ H' => ∃ (o7 : Option V) (vs : List V), σ = [some (.ref sc), some (.ref b), some (.int (0 + (i : Int))), some (.int p), some (.ref tm), some vn, some (.ref lr), o7, o8, o9, o10, o11, o12, o13, o14, o15, none, none, none, none] ∧
      Same (hide lr H9) (hide lr H') ∧ H' lr = some (.lst vs) ∧ DpAll K (hide lr H') vs ((its m n i2).map Itm.d)) ⟨_, [], rfl, Same.refl _, hr9, .nil⟩ (fun _ _ _ _ _ => trivial) ?_ ?_⟩
    · rintro i2 y σ Hy Ha hi2 ⟨o7, vs, rfl, ea, hra, hda⟩ ⟨rfl, rfl⟩
      have hi2' : i2 < 1000 := by
        have : i2 < (1 + (k : Int)).toNat := hi2
        omega
      have ei : V.int (0 + (i2 : Int) + 1) = V.int ((i2 + 1 : Nat) : Int) := by
        congr 1
        omega
      have eah := ea.trans hide_same
      refine ⟨_, rfl, .inl ⟨rfl, _, SqL.of hra⟩, _, rfl, _, rfl, _, _, rfl, rfl, .ref tm, m, i2 + 1, congrArg (fun z => [V.ref tm, z]) ei, hm9.same eah, by omega, by omega, fun l1 Hb xs1 hl1 eb h1 hd1 => ?_⟩
      obtain ⟨y1, hy1, hdy1⟩ := dpa_get hd1 (i := i2) (d := dI (cIter m i2)) (by rw [List.getElem?_map, rowsOf_get m (by omega)]; rfl)
      refine ⟨_, rfl, l1, xs1, _, y1, rfl, rfl, SqL.of h1, at_of (j := i2) (by omega) hy1, ?_⟩
      refine ⟨_, rfl, _, rfl, _, _, rfl, rfl, vn, n, i2 + 1, congrArg (fun z => [vn, z]) ei, hn9.same (eah.trans eb), by omega, by omega, fun l2 Hc xs2 hl2 ec h2 hd2 => ?_⟩
      obtain ⟨y2, hy2, hdy2⟩ := dpa_get hd2 (i := i2) (d := dI (cIter n i2)) (by rw [List.getElem?_map, rowsOf_get n (by omega)]; rfl)
      refine ⟨_, rfl, l2, xs2, _, y2, rfl, rfl, SqL.of h2, at_of (j := i2) (by omega) hy2, by show 2 ≤ sizeLine; decide, fun t ht => ?_⟩
      have ed : Same Hc (upd Hc t (.tup [y1, y2])) := (Same.refl Hc).new ht
      have hrb := eb _ _ hra
      have hrd := ed _ _ (ec _ _ hrb)
      have ntl : t ≠ lr := fun e => by rw [e, ec _ _ hrb] at ht; cases ht
      have htd : (upd Hc t (.tup [y1, y2])) t = some (.tup [y1, y2]) := upd_same
      generalize upd Hc t (.tup [y1, y2]) = Hd at *
      refine ⟨lr, vs, _, rfl, rfl, hrd, ?_, ?_⟩
      · rw [dpa_len hda, List.length_map, its_len]
        exact Nat.lt_of_le_of_lt (show i2 ≤ 100000 by omega) (by decide)
      · refine ⟨_, _, rfl, (ea.trans (hide_hide (eb.trans (ec.trans ed)))).trans hide_upd', upd_same, ?_⟩
        rw [its_succ, List.map_append]
        refine sma hide_upd' (dpa_app (sma (hide_hide (eb.trans (ec.trans ed))) hda) (.cons (.tup (SqT.of (by rw [hide_ne ntl]; exact htd)) (.cons (sm (nw_hide hra (ec.trans ed)) hdy1) (.cons (sm (nw_hide hrb ed) hdy2) .nil))) .nil))
    · rintro σ Ha ⟨o7, vs, rfl, ea, hra, hda⟩
      have eah := ea.trans hide_same
      have hkk : (1 + (k : Int)).toNat = k + 1 := by omega
      have hda' : DpAll K Ha vs ((its m n (k + 1)).map Itm.d) := by
        have := sma (K := K) hide_same hda
        rw [show ((1 + (k : Int)) : Int).toNat = k + 1 from hkk] at this
        exact this
      have hk41 : k + 1 ≤ 41 := by omega
      have ls0 : LS K Ha b c (.ref tm) vn m n lr vs (its m n (k + 1)) .non := ⟨hB9h.same eah, hm9.same eah, hn9.same eah, hra, nlr.1, hda', .inl rfl⟩
      clear hda hda' ea eah hm9 hn9 hB9h e79 hr9 hB8 hr8 e8 e9 hB9 hm7 hn hB7
      dsimp only
      refine seq_j2 (t1 := tAsg _ _) (t2 := tAsg _ _) (fun σ' H' => ∃ (o7 : Option V) (w8 : V) (lr : Addr) (vs : List V) (k : Nat), σ' = [some (.ref sc), some (.ref b), some (.int (0 + (i : Int))), some (.int p), some (.ref tm), some vn, some (.ref lr), o7, some w8, o9, o10, o11, o12, o13, o14, o15, none, none, none, none] ∧
        LS K H' b c (.ref tm) vn m n lr vs (its m n k) w8 ∧ 1 ≤ k ∧ k ≤ 41) ?_ fun join => ?_
      · rintro σ' H1 ⟨o7, w8, lr, vs, k, rfl, ls, hk1, hk41⟩
        have hvl : vs.length = k := by rw [dpa_len ls.da, List.length_map, its_len]
        have hits := its_ok (m := m) (n := n) hsm hsn k
        refine ⟨_, rfl, _, rfl, lr, vs, rfl, .inl (SqL.of ls.row), b, c, _, rfl, ls.bag, by omega, by omega, fun H2 at_ e2 hB2 hat => ?_⟩
        have l2 := ls.step e2 hB2
        obtain ⟨vt, hvt, hdt⟩ := dpa_get l2.da (i := at_) (d := (Itm.pr (cIter m at_) (some (cIter n at_))).d) (by rw [List.getElem?_map, its_get m n (by omega)]; rfl)
        obtain ⟨t, x, y, rfl, ht, hx, hy⟩ := dp2 hdt
        have hA : (cIter m at_).length ≤ 100000 := by rw [cIter_length]; omega
        have hBn : (cIter n at_).length ≤ 100000 := by rw [cIter_length]; omega
        have Rr : ∀ {H : Hp}, Same H2 H → ∀ {Q : VK}, Q (.ref t) H → rIxL K (.ref lr) (.int at_) H Q := @fun _ e Q q => ixL_of (SqL.of (e _ _ l2.row)) hvt q
        have s0 := Same.refl H2
        refine ⟨_, rfl, _, rfl, _, rfl, Rr s0 ⟨t, _, _, _, rfl, rfl, Same.tup s0 ht, at_of (j := 1) rfl rfl, _, rfl, _, rfl, Rr s0 ⟨t, _, _, _, rfl, rfl, Same.tup s0 ht, at_of (j := 0) rfl rfl, by show 2 ≤ sizeLine; decide, fun t1 n1 => ?_⟩⟩⟩
        have s1 : Same H2 (upd H2 t1 (.tup [y, x])) := s0.new n1
        have h1 : (upd H2 t1 (.tup [y, x])) t1 = some (.tup [y, x]) := upd_same
        generalize upd H2 t1 (.tup [y, x]) = Ha at *
        refine ⟨_, rfl, _, rfl, Rr s1 ⟨t, _, rfl, .inr (Same.tup s1 ht), fun q2 n2 => ?_⟩⟩
        have fb : Same Ha (upd Ha q2 (.lst [x, y])) := (Same.refl _).new n2
        have h2 : (upd Ha q2 (.lst [x, y])) q2 = some (.lst [x, y]) := upd_same
        generalize upd Ha q2 (.lst [x, y]) = Hb at *
        have s2 := s1.trans fb
        refine ⟨_, rfl, _, rfl, Rr s2 ⟨t, _, _, _, rfl, rfl, Same.tup s2 ht, at_of (j := 0) rfl rfl, _, rfl, _, rfl, Rr s2 ⟨t, _, _, _, rfl, rfl, Same.tup s2 ht, at_of (j := 0) rfl rfl, by show 1 ≤ sizeLine; decide, fun t3 n3 => ?_⟩⟩⟩
        have fc : Same Hb (upd Hb t3 (.tup [x])) := (Same.refl _).new n3
        have h3 : (upd Hb t3 (.tup [x])) t3 = some (.tup [x]) := upd_same
        generalize upd Hb t3 (.tup [x]) = Hc at *
        have s3 := s2.trans fc
        refine ⟨_, rfl, _, rfl, Rr s3 ⟨t, _, _, _, rfl, rfl, Same.tup s3 ht, at_of (j := 0) rfl rfl, by show 2 ≤ sizeLine; decide, fun t4 n4 => ?_⟩⟩
        have fd : Same Hc (upd Hc t4 (.tup [x, .non])) := (Same.refl _).new n4
        have h4 : (upd Hc t4 (.tup [x, .non])) t4 = some (.tup [x, .non]) := upd_same
        generalize upd Hc t4 (.tup [x, .non]) = Hd at *
        refine ⟨by show 6 ≤ sizeLine; decide, fun lb nb => ?_⟩
        have fe : Same Hd (upd Hd lb (.lst [.ref t1, .ref q2, x, .ref t3, .ref t4, .non])) := (Same.refl _).new nb
        have h5 : (upd Hd lb (.lst [.ref t1, .ref q2, x, .ref t3, .ref t4, .non])) lb = some (.lst [.ref t1, .ref q2, x, .ref t3, .ref t4, .non]) := upd_same
        have nlb := ((l2.same (s3.trans fd)).bag.ne nb).1
        generalize upd Hd lb (.lst [.ref t1, .ref q2, x, .ref t3, .ref t4, .non]) = He at *
        have s5 := (s3.trans fd).trans fe
        have l5 := l2.same s5
        refine ⟨b, c, lb, _, rfl, l5.bag, h5, nlb, fun h => (by cases h), by show 6 ≤ 1000000; decide, fun H6 bent e6 hB6 hbent => ?_⟩
        obtain ⟨it, hit, hdit⟩ : ∃ it : Itm, it.ok ∧ Dp K He bent it.d := by
          have hx' := sm s5 hx
          have hy' := sm s5 hy
          simp only [List.mem_cons, List.not_mem_nil, or_false] at hbent
          rcases hbent with rfl | rfl | rfl | rfl | rfl | rfl
          · exact ⟨.pr (cIter n at_) (some (cIter m at_)), ⟨hBn, fun b e => by cases e; exact hA⟩, .tup (SqT.of ((fb.trans (fc.trans (fd.trans fe))) _ _ h1)) (.cons hy' (.cons hx' .nil))⟩
          · exact ⟨.l2 (cIter m at_) (cIter n at_), ⟨hA, hBn⟩, .lst (SqL.of ((fc.trans (fd.trans fe)) _ _ h2)) (.cons hx' (.cons hy' .nil))⟩
          · exact ⟨.li (cIter m at_), hA, hx'⟩
          · exact ⟨.t1 (cIter m at_), hA, .tup (SqT.of ((fd.trans fe) _ _ h3)) (.cons hx' .nil)⟩
          · exact ⟨.pr (cIter m at_) none, ⟨hA, fun b e => by cases e⟩, .tup (SqT.of (fe _ _ h4)) (.cons hx' (.cons .non .nil))⟩
          · exact ⟨.non, trivial, .non⟩
        have hbe := bagD l5.bag.at' e6 (okD_itm it) hdit
        have l6 := l5.step e6 hB6
        clear h1 h2 h3 h4 h5 fb fc fd fe s1 s2 s3 s5 l5 hbent hdit Rr s0 ht hx hy hdt hvt l2 e2 hB2 ls e6 hB6
        refine ⟨_, rfl, _, rfl, _, rfl, _, rfl, _, rfl, _, rfl, _, rfl, lr, vs, rfl, SqL.of l6.row, fun s1 n1 => ?_⟩
        have f1 : Same H6 (upd H6 s1 (.lst (cutV vs none (some (at_ : Int))))) := (Same.refl _).new n1
        have h1 : (upd H6 s1 (.lst (cutV vs none (some (at_ : Int))))) s1 = some (.lst (cutV vs none (some (at_ : Int)))) := upd_same
        generalize upd H6 s1 (.lst (cutV vs none (some (at_ : Int)))) = G1 at *
        refine ⟨_, rfl, by show 1 ≤ sizeLine; decide, fun s2 n2 => ?_⟩
        have f2 : Same G1 (upd G1 s2 (.lst [bent])) := (Same.refl _).new n2
        have h2 : (upd G1 s2 (.lst [bent])) s2 = some (.lst [bent]) := upd_same
        generalize upd G1 s2 (.lst [bent]) = G2 at *
        have c1 := cutV_length vs none (some (at_ : Int))
        refine ⟨s1, s2, _, _, rfl, rfl, f2 _ _ h1, h2, Nat.le_trans (show (cutV vs none (some (at_ : Int))).length + 1 ≤ 1000 by omega) (by decide), fun s3 n3 => ?_⟩
        have f3 : Same G2 (upd G2 s3 (.lst (cutV vs none (some (at_ : Int)) ++ [bent]))) := (Same.refl _).new n3
        have h3 : (upd G2 s3 (.lst (cutV vs none (some (at_ : Int)) ++ [bent]))) s3 = some (.lst (cutV vs none (some (at_ : Int)) ++ [bent])) := upd_same
        generalize upd G2 s3 (.lst (cutV vs none (some (at_ : Int)) ++ [bent])) = G3 at *
        have g3 := f1.trans (f2.trans f3)
        refine ⟨_, rfl, _, rfl, _, _, rfl, rfl, _, rfl, lr, vs, rfl, SqL.of (g3 _ _ l6.row), fun s4 n4 => ?_⟩
        dsimp only at n4 ⊢
        have f4 : Same G3 (upd G3 s4 (.lst (cutV vs (some ((at_ : Int) + 1)) none))) := (Same.refl _).new n4
        have h4 : (upd G3 s4 (.lst (cutV vs (some ((at_ : Int) + 1)) none))) s4 = some (.lst (cutV vs (some ((at_ : Int) + 1)) none)) := upd_same
        generalize upd G3 s4 (.lst (cutV vs (some ((at_ : Int) + 1)) none)) = G4 at *
        have c2 := cutV_length vs (some ((at_ : Int) + 1)) none
        refine ⟨s3, s4, _, _, rfl, rfl, f4 _ _ h3, h4, Nat.le_trans (show (cutV vs none (some (at_ : Int)) ++ [bent]).length + (cutV vs (some ((at_ : Int) + 1)) none).length ≤ 1000 by rw [List.length_append]; show (cutV vs none (some (at_ : Int))).length + 1 + _ ≤ 1000; omega) (by decide), fun s5 n5 => ?_⟩
        have f5 : Same G4 (upd G4 s5 (.lst ((cutV vs none (some (at_ : Int)) ++ [bent]) ++ cutV vs (some ((at_ : Int) + 1)) none))) := (Same.refl _).new n5
        have h5 : (upd G4 s5 (.lst ((cutV vs none (some (at_ : Int)) ++ [bent]) ++ cutV vs (some ((at_ : Int) + 1)) none))) s5 = some (.lst ((cutV vs none (some (at_ : Int)) ++ [bent]) ++ cutV vs (some ((at_ : Int) + 1)) none)) := upd_same
        generalize upd G4 s5 (.lst ((cutV vs none (some (at_ : Int)) ++ [bent]) ++ cutV vs (some ((at_ : Int) + 1)) none)) = G5 at *
        have g5 := g3.trans (f4.trans f5)
        refine ⟨_, rfl, lr, vs, rfl, SqL.of (g5 _ _ l6.row), fun s6 n6 => ?_⟩
        have f6 : Same G5 (upd G5 s6 (.lst vs.reverse)) := (Same.refl _).new n6
        have h6 : (upd G5 s6 (.lst vs.reverse)) s6 = some (.lst vs.reverse) := upd_same
        generalize upd G5 s6 (.lst vs.reverse) = G6 at *
        refine ⟨by show 0 ≤ sizeLine; decide, fun s7 n7 => ?_⟩
        have f7 : Same G6 (upd G6 s7 (.lst [])) := (Same.refl _).new n7
        have h7 : (upd G6 s7 (.lst [])) s7 = some (.lst []) := upd_same
        generalize upd G6 s7 (.lst []) = G7 at *
        have g7 := g5.trans (f6.trans f7)
        refine ⟨_, rfl, _, rfl, lr, vs, rfl, SqL.of (g7 _ _ l6.row), fun s8 n8 => ?_⟩
        have f8 : Same G7 (upd G7 s8 (.lst (cutV vs (some 1) none))) := (Same.refl _).new n8
        have h8 : (upd G7 s8 (.lst (cutV vs (some 1) none))) s8 = some (.lst (cutV vs (some 1) none)) := upd_same
        generalize upd G7 s8 (.lst (cutV vs (some 1) none)) = G8 at *
        have g8 := g7.trans f8
        refine ⟨_, rfl, _, rfl, _, rfl, lr, vs, rfl, SqL.of (g8 _ _ l6.row), fun s9 n9 => ?_⟩
        dsimp only at n9 ⊢
        have f9 : Same G8 (upd G8 s9 (.lst (cutV vs none (some (-1))))) := (Same.refl _).new n9
        have h9 : (upd G8 s9 (.lst (cutV vs none (some (-1))))) s9 = some (.lst (cutV vs none (some (-1)))) := upd_same
        generalize upd G8 s9 (.lst (cutV vs none (some (-1)))) = G9 at *
        have g9 := g8.trans f9
        refine ⟨_, rfl, _, rfl, lr, lr, vs, vs, rfl, rfl, g9 _ _ l6.row, g9 _ _ l6.row, Nat.le_trans (show vs.length + vs.length ≤ 1000 by omega) (by decide), fun sA nA => ?_⟩
        have fA : Same G9 (upd G9 sA (.lst (vs ++ vs))) := (Same.refl _).new nA
        have hA' : (upd G9 sA (.lst (vs ++ vs))) sA = some (.lst (vs ++ vs)) := upd_same
        generalize upd G9 sA (.lst (vs ++ vs)) = GA at *
        refine ⟨by show 11 ≤ sizeLine; decide, fun sl nl => ?_⟩
        have fB : Same GA (upd GA sl (.lst [.ref lr, .ref lr, .ref lr, .ref s5, .ref s6, .ref s7, .non, .int 3, .ref s8, .ref s9, .ref sA])) := (Same.refl _).new nl
        have hB' : (upd GA sl (.lst [.ref lr, .ref lr, .ref lr, .ref s5, .ref s6, .ref s7, .non, .int 3, .ref s8, .ref s9, .ref sA])) sl = some (.lst [.ref lr, .ref lr, .ref lr, .ref s5, .ref s6, .ref s7, .non, .int 3, .ref s8, .ref s9, .ref sA]) := upd_same
        have gA := g9.trans fA
        have nsl := ((l6.same gA).bag.ne nl).1
        generalize upd GA sl (.lst [.ref lr, .ref lr, .ref lr, .ref s5, .ref s6, .ref s7, .non, .int 3, .ref s8, .ref s9, .ref sA]) = GB at *
        have gB := gA.trans fB
        have lB := l6.same gB
        refine ⟨b, c, sl, _, rfl, lB.bag, hB', nsl, fun h => (by cases h), by show 11 ≤ 1000000; decide, fun H7 some_ e7 hB7 hsome => ?_⟩
        obtain ⟨s, hds, hsok, hst⟩ : ∃ s : Sm, Dp K GB some_ s.d ∧ s.ok ∧ s.noTup := by
          have da := lB.da
          obtain ⟨i1, d1, l1, k1⟩ := cut_dp da none (some (at_ : Int))
          obtain ⟨i2, d2, l2, k2⟩ := cut_dp da (some ((at_ : Int) + 1)) none
          obtain ⟨i3, d3, l3, k3⟩ := cut_dp da (some 1) none
          obtain ⟨i4, d4, l4, k4⟩ := cut_dp da none (some (-1))
          rw [its_len] at l1 l2 l3 l4
          simp only [List.mem_cons, List.not_mem_nil, or_false] at hsome
          rcases hsome with rfl | rfl | rfl | rfl | rfl | rfl | rfl | rfl | rfl | rfl | rfl
          · exact sub_sm lB.row da (by rw [its_len]; omega) hits
          · exact sub_sm lB.row da (by rw [its_len]; omega) hits
          · exact sub_sm lB.row da (by rw [its_len]; omega) hits
          · refine sub_sm (is := (i1 ++ [it]) ++ i2) ((f6.trans (f7.trans (f8.trans (f9.trans (fA.trans fB))))) _ _ h5) ?_ ?_ ?_
            · rw [List.map_append, List.map_append]
              exact dpa_app (dpa_app d1 (.cons (sm gB hbe) .nil)) d2
            · rw [List.length_append, List.length_append]
              show i1.length + 1 + _ ≤ _
              omega
            · intro i hi
              rcases List.mem_append.mp hi with hi | hi
              · rcases List.mem_append.mp hi with hi | hi
                · exact hits i (k1 i hi)
                · rw [List.mem_singleton.mp hi]; exact hit
              · exact hits i (k2 i hi)
          · refine sub_sm (is := (its m n k).reverse) ((f7.trans (f8.trans (f9.trans (fA.trans fB)))) _ _ h6) ?_ ?_ ?_
            · rw [List.map_reverse]
              exact dpa_rev da
            · rw [List.length_reverse, its_len]; omega
            · intro i hi
              exact hits i (List.mem_reverse.mp hi)
          · exact sub_sm (is := []) ((f8.trans (f9.trans (fA.trans fB))) _ _ h7) .nil (Nat.zero_le _) (fun _ h => by cases h)
          · exact ⟨.non, .non, trivial, trivial⟩
          · exact ⟨.three, .int 3, trivial, trivial⟩
          · exact sub_sm ((f9.trans (fA.trans fB)) _ _ h8) d3 (by omega) fun i hi => hits i (k3 i hi)
          · exact sub_sm ((fA.trans fB) _ _ h9) d4 (by omega) fun i hi => hits i (k4 i hi)
          · refine sub_sm (is := its m n k ++ its m n k) (fB _ _ hA') ?_ ?_ ?_
            · rw [List.map_append]
              exact dpa_app da da
            · rw [List.length_append, its_len]; omega
            · intro i hi
              rcases List.mem_append.mp hi with hi | hi <;> exact hits i hi
        have hs7 := bagD lB.bag.at' e7 (okD_sm s) hds
        have l7 := lB.step e7 hB7
        clear h1 h2 h3 h4 h5 h6 h7 h8 h9 hA' hB' f1 f2 f3 f4 f5 f6 f7 f8 f9 fA fB g3 g5 g7 g8 g9 gA gB c1 c2 lB hsome hds l6 hbe e7 hB7
        refine ⟨_, rfl, _, rfl, _, rfl, lr, vs, rfl, .inl (SqL.of l7.row), _, _, rfl, rfl, b, c, _, rfl, l7.bag, by show (0 : Int) < (vs.length : Int) + 1; omega, by show (vs.length : Int) + 1 < _; omega, fun H8 k1 e8 hB8 hk1' => ?_⟩
        have l8 := l7.step e8 hB8
        have hs8 := bagD l7.bag.at' e8 (okD_sm s) hs7
        refine ⟨_, rfl, lr, vs, rfl, .inl (SqL.of l8.row), _, _, rfl, rfl, ?_⟩
        dsimp only
        refine cons_join (ta := tIf _ _ _) (fun x H' => H' = H8 ∧ ∃ z : Int, x = .int z) ?_ ?_
        · intro Q' hq
          rcases l8.due with rfl | ⟨t', lf, u, rfl, ht', hu⟩
          · exact ⟨_, rfl, rfl, _, rfl, ifT (decide_eq_true rfl) (iteT (hq _ _ ⟨rfl, 0, rfl⟩))⟩
          · refine ⟨_, rfl, rfl, _, rfl, ifF (decide_eq_false (fun h => by cases h)) ⟨_, rfl, t', _, _, _, rfl, rfl, SqT.of ht', at_of (j := 1) rfl rfl, rfl, _, rfl, ?_⟩⟩
            rcases hu with rfl | ⟨z, rfl⟩
            · exact ifT (decide_eq_true rfl) (hq _ _ ⟨rfl, 0, rfl⟩)
            · exact ifF (decide_eq_false (fun h => by cases h)) ⟨_, rfl, t', _, _, _, rfl, rfl, SqT.of ht', at_of (j := 1) rfl rfl, hq _ _ ⟨rfl, z, rfl⟩⟩
        rintro x3 H8' ⟨rfl, z, rfl⟩
        refine ⟨_, rfl, by show 6 ≤ sizeLine; decide, fun lb2 nb2 => ?_⟩
        dsimp only at nb2 ⊢
        have f9 : Same H8' (upd H8' lb2 (.lst [.int k1, .int ((vs.length : Int) - 1), .int z, .non, .int (-1), .bl true])) := (Same.refl _).new nb2
        have l9 := l8.same f9
        refine ⟨b, c, lb2, _, rfl, l9.bag, upd_same, (l8.bag.ne nb2).1, fun h => (by cases h), by show 6 ≤ 1000000; decide, fun H10 back e10 hB10 hback => ?_⟩
        obtain ⟨bk, hbk⟩ : ∃ bk : Bk, ∀ H, Dp K H back bk.d := by
          simp only [List.mem_cons, List.not_mem_nil, or_false] at hback
          rcases hback with rfl | rfl | rfl | rfl | rfl | rfl
          · exact ⟨.num _, fun H => .int _⟩
          · exact ⟨.num _, fun H => .int _⟩
          · exact ⟨.num _, fun H => .int _⟩
          · exact ⟨.non, fun H => .non⟩
          · exact ⟨.num _, fun H => .int _⟩
          · exact ⟨.bl _, fun H => .bl _⟩
        have l10 := l9.step e10 hB10
        have hs10 := bagD l9.bag.at' e10 (okD_sm s) (sm f9 hs8)
        have hbag := l10.bag
        have hm10 := l10.m
        have hn10 := l10.n
        clear l7 l8 l9 l10 f9 hs8 hs7 e8 e10 hback
        refine seq_j3 (t1 := tAsg _ _) (t2 := tPar _ _ _) (t3 := tIfS _ _ _) (fun σ' H' => ∃ (o13 : Option V) (xm : Addr), σ' = [some (.ref sc), some (.ref b), some (.int (0 + (i : Int))), some (.int p), some (.ref tm), some vn, some (.ref lr), o7, some w8, some (.int at_), some bent, some some_, some back, o13, some (.ref xm), some (.int (lenD s.d : Nat)), none, none, none, none] ∧
          BagC H' b c ∧ MOk K H' (.ref tm) m ∧ MOk K H' vn n ∧ MatchAt K CT CM H' xm m n s.d bk.d ∧ Dp K H' some_ s.d) ?_ fun join => ?_
        · rintro σ' H1 ⟨o13, xm, rfl, hbag1, hm1, hn1, hM, hds⟩
          obtain ⟨dx, xa, xb, vp, vb, m1, m2, m3, m4, m5⟩ := id hM
          have hlen := lenD_sm hsok
          refine ⟨_, rfl, xm, dx, _, rfl, m1, mf_no _ _ _ _ (by decide +kernel) (by decide +kernel) (by decide +kernel) (by decide +kernel), xm, m, n, s, bk, rfl, hM, hm1.wf, hn1.wf, hsok, fun H2 e2 => ?_⟩
          refine ⟨_, rfl, xm, dx, _, rfl, e2 _ _ m1, xm, m, n, s.d, bk.d, rfl, hM.same e2, wid_sm hsok, depth_sm s, fun H3 v3 e3 hv3 => ?_⟩
          have e13 := e2.trans e3
          refine ⟨_, rfl, xm, dx, _, rfl, e13 _ _ m1, xm, m, n, s.d, bk.d, rfl, hM.same e13, bk_leaf bk, fun H4 v4 e4 hv4 => ?_⟩
          have e14 := e13.trans e4
          refine ⟨_, rfl, xm, dx, _, rfl, e14 _ _ m1, xm, m, n, s.d, bk.d, rfl, hM.same e14, fun H5 e5 => ⟨⟨_, rfl, by omega⟩, ?_⟩⟩
          have e15 := e14.trans e5
          refine ⟨_, rfl, xm, dx, _, rfl, e15 _ _ m1, xm, m, n, s.d, bk.d, rfl, hM.same e15, by omega, fun H6 e6 => ⟨⟨_, rfl⟩, by show 5 ≤ sizeLine; decide, fun p1 np1 => ?_⟩⟩
          have e16 := e15.trans e6
          have f7 : Same H6 (upd H6 p1 (.lst [.bl (hP m n s bk), v3, v4, .int (lenD s.d : Nat), .str (reprS (lenD s.d))])) := (Same.refl _).new np1
          have h7 : (upd H6 p1 (.lst [.bl (hP m n s bk), v3, v4, .int (lenD s.d : Nat), .str (reprS (lenD s.d))])) p1 = some (.lst [.bl (hP m n s bk), v3, v4, .int (lenD s.d : Nat), .str (reprS (lenD s.d))]) := upd_same
          generalize upd H6 p1 (.lst [.bl (hP m n s bk), v3, v4, .int (lenD s.d : Nat), .str (reprS (lenD s.d))]) = H7 at *
          rw [hP_hL hnp hst] at h7
          have e17 := e16.trans f7
          refine ⟨_, rfl, _, rfl, _, rfl, _, rfl, .ref tm, vn, some_, back, m, n, s, bk, rfl, hm1.same e17, hn1.same e17, sm e17 hds, hsok, hbk _, fun H8 e8 => ?_⟩
          refine ⟨_, rfl, _, rfl, _, rfl, _, rfl, _, rfl, log_small (k := lenD s.d) (by omega), _, _, rfl, rfl, (repr_len (k := lenD s.d) (by omega)).1, _, _, rfl, rfl, (repr_len (k := lenD s.d) (by omega)).2, by show 5 ≤ sizeLine; decide, fun p2 np2 => ?_⟩
          have f9 : Same H8 (upd H8 p2 (.lst [.bl (hL m n s bk), some_, back, .int (lenD s.d : Nat), .str ((("Match(" : Str) ++ (toString ((lenD s.d : Nat) : Int) : Str)) ++ (" pairs)" : Str))])) := (Same.refl _).new np2
          have h9 : (upd H8 p2 (.lst [.bl (hL m n s bk), some_, back, .int (lenD s.d : Nat), .str ((("Match(" : Str) ++ (toString ((lenD s.d : Nat) : Int) : Str)) ++ (" pairs)" : Str))])) p2 = some (.lst [.bl (hL m n s bk), some_, back, .int (lenD s.d : Nat), .str ((("Match(" : Str) ++ (toString ((lenD s.d : Nat) : Int) : Str)) ++ (" pairs)" : Str))]) := upd_same
          generalize upd H8 p2 (.lst [.bl (hL m n s bk), some_, back, .int (lenD s.d : Nat), .str ((("Match(" : Str) ++ (toString ((lenD s.d : Nat) : Int) : Str)) ++ (" pairs)" : Str))]) = H9 at *
          rw [repr_eq] at h9
          have e79 := e8.trans f9
          have e19 := e17.trans e79
          have hw1 := wid_sm hsok
          have hw2 := bk_wid bk
          have hd1 := depth_sm s
          have hd2 := bk_depth bk
          refine ⟨.ref p1, .ref p2, .list [.bool (hL m n s bk), s.d, bk.d, .int (lenD s.d : Nat), .str (reprS (lenD s.d))], rfl, .lst (SqL.of (e79 _ _ h7)) (.cons (.bl _) (.cons (sm (nw_same.trans (e4.trans (e5.trans (e6.trans (f7.trans e79))))) hv3.dp) (.cons (hbkv hv4 _) (.cons (.int _) (.cons (.str _) .nil))))),
            .lst (SqL.of h9) (.cons (.bl _) (.cons (sm e19 hds) (.cons (hbk _) (.cons (.int _) (.cons (.str _) .nil))))), ?_, ?_, fun Hz ez => ⟨_, rfl, iteF ?_⟩⟩
          · simp only [wid_lst, widA_cons, widA_nil, hw1, hw2, wid, Bool.and_true, Bool.true_and, List.length_cons, List.length_nil]
            exact decide_eq_true (by omega)
          · simp only [PyData.depth, PyData.depthAll, hd2]
            omega
          have e1z := e19.trans ez
          refine ⟨_, rfl, xm, dx, _, rfl, e1z _ _ m1, xm, m, n, s.d, bk.d, rfl, hM.same e1z, fun ya hya => ⟨_, rfl, .ref tm, m, rfl, hm1.same e1z, fun Ha y1 ea hy1 => ?_⟩⟩
          have ta := hya.same ea
          have tb := hy1.at' ea
          obtain ⟨d1, l1, x1, k1, _⟩ := id ta
          obtain ⟨d2, l2, x2, k2, _⟩ := id tb
          refine ⟨ya, y1, d1, d2, _, _, rfl, rfl, k1, k2, ya, y1, m, rfl, ta, tb, fun Hb eb => ⟨_, rfl, _, rfl, iteF ?_⟩⟩
          have e1b := e1z.trans (ea.trans eb)
          refine ⟨_, rfl, xm, dx, _, rfl, e1b _ _ m1, xm, m, n, s.d, bk.d, rfl, hM.same e1b, fun yc hyc => ⟨_, rfl, vn, n, rfl, hn1.same e1b, fun Hc y2 ec hy2 => ?_⟩⟩
          have tc := hyc.same ec
          have td := hy2.at' ec
          obtain ⟨d3, l3, x3, k3, _⟩ := id tc
          obtain ⟨d4, l4, x4, k4, _⟩ := id td
          refine ⟨yc, y2, d3, d4, _, _, rfl, rfl, k3, k4, yc, y2, n, rfl, tc, td, fun Hd ed => ⟨_, rfl, _, rfl, iteF ?_⟩⟩
          exact ⟨_, _, _, _, _, _, _, _, _, _, _, _, _, _, rfl, hbag1.same (e1b.trans (ec.trans ed))⟩
        · refine ⟨_, rfl, some_, .ty "list", _, _, _, rfl, .ty _, dp_ty hs10, kit_dp hs10, _, rfl, ?_⟩
          cases s with
          | tup is => exact hst.elim
          | non =>
            refine ifF (by simp [Sm.d, tyN, isaT]) ⟨_, rfl, ?_⟩
            refine ⟨_, rfl, .ref tm, m, rfl, hm10, fun Ha xa ea hTa => ⟨_, rfl, vn, n, rfl, hn10.same ea, fun Hb xb eb hTb => ⟨_, rfl, _, rfl, xa, xb, m, n, some_, back, Sm.non.d, bk.d, rfl, ⟨(hTa.at' ea).same eb, hTb.at' eb, sm (ea.trans eb) hs10, wid_sm hsok, depth_sm .non, hbk _, bk_leaf bk⟩, fun Hc xm dx vp vb hxm hdx ec hxc hvp hvb => ?_⟩⟩⟩
            have e10c := ea.trans (eb.trans ec)
            have hsc := sm e10c hs10
            refine ⟨_, rfl, some_, .ty "list", _, _, _, rfl, .ty _, dp_ty hsc, kit_dp hsc, _, rfl, ifF (by simp [Sm.d, tyN, isaT]) ⟨_, _, rfl, ?_⟩⟩
            refine ⟨_, rfl, some_, .ty "list", _, _, _, rfl, .ty _, dp_ty hsc, kit_dp hsc, _, rfl, ifF (by simp [Sm.d, tyN, isaT]) ?_⟩
            exact join _ _ ⟨_, xm, rfl, hbag.same e10c, hm10.same e10c, hn10.same e10c, ⟨dx, xa, xb, vp, vb, hxc, ((hTa.at' ea).same eb).same ec, (hTb.at' eb).same ec, sm nw_same hvp, sm nw_same hvb⟩, hsc⟩
          | three =>
            refine ifF (by simp [Sm.d, tyN, isaT]) ⟨_, rfl, ?_⟩
            refine ⟨_, rfl, .ref tm, m, rfl, hm10, fun Ha xa ea hTa => ⟨_, rfl, vn, n, rfl, hn10.same ea, fun Hb xb eb hTb => ⟨_, rfl, _, rfl, xa, xb, m, n, some_, back, Sm.three.d, bk.d, rfl, ⟨(hTa.at' ea).same eb, hTb.at' eb, sm (ea.trans eb) hs10, wid_sm hsok, depth_sm .three, hbk _, bk_leaf bk⟩, fun Hc xm dx vp vb hxm hdx ec hxc hvp hvb => ?_⟩⟩⟩
            have e10c := ea.trans (eb.trans ec)
            have hsc := sm e10c hs10
            refine ⟨_, rfl, some_, .ty "list", _, _, _, rfl, .ty _, dp_ty hsc, kit_dp hsc, _, rfl, ifF (by simp [Sm.d, tyN, isaT]) ⟨_, _, rfl, ?_⟩⟩
            refine ⟨_, rfl, some_, .ty "list", _, _, _, rfl, .ty _, dp_ty hsc, kit_dp hsc, _, rfl, ifF (by simp [Sm.d, tyN, isaT]) ?_⟩
            exact join _ _ ⟨_, xm, rfl, hbag.same e10c, hm10.same e10c, hn10.same e10c, ⟨dx, xa, xb, vp, vb, hxc, ((hTa.at' ea).same eb).same ec, (hTb.at' eb).same ec, sm nw_same hvp, sm nw_same hvb⟩, hsc⟩
          | lst is' =>
            obtain ⟨a, xs, rfl, hsq, hda⟩ := dp_list hs10
            have hlen : xs.length = is'.length := by rw [dpa_len hda, List.length_map]
            have hlen2 := hsok.1
            refine ifT (by simp [Sm.d, tyN, isaT]) ⟨_, rfl, a, _, rfl, .inl hsq, fun lg nlg => ?_⟩
            have fg : Same H10 (upd H10 lg (.lst xs)) := (Same.refl _).new nlg
            have hlg : (upd H10 lg (.lst xs)) lg = some (.lst xs) := upd_same
            generalize upd H10 lg (.lst xs) = Hg at *
            have nlgb := hbag.ne nlg
            refine ⟨_, rfl, .ref tm, m, rfl, hm10.same fg, fun Ha xa ea hTa => ⟨_, rfl, vn, n, rfl, hn10.same (fg.trans ea), fun Hb xb eb hTb => ⟨_, rfl, _, rfl, xa, xb, m, n, .ref lg, back, (Sm.lst is').d, bk.d, rfl, ⟨(hTa.at' ea).same eb, hTb.at' eb, .lst (SqL.of (eb _ _ (ea _ _ hlg))) (sma (fg.trans (ea.trans eb)) hda), wid_sm hsok, depth_sm (.lst is'), hbk _, bk_leaf bk⟩, fun Hc xm dx vp vb hxm hdx ec hxc hvp hvb => ?_⟩⟩⟩
            have egc := ea.trans (eb.trans ec)
            have e10c := fg.trans egc
            have hsc := sm e10c hs10
            have hlc := egc _ _ hlg
            have hgc : Dp K Hc (.ref lg) (Sm.lst is').d := .lst (SqL.of hlc) (sma e10c hda)
            refine ⟨_, rfl, .ref a, .ty "list", _, _, _, rfl, .ty _, dp_ty hsc, kit_dp hsc, _, rfl, ifT (by simp [Sm.d, tyN, isaT]) ⟨_, rfl, a, _, rfl, .inl (e10c.seq hsq), _, _, rfl, ?_⟩⟩
            refine ⟨_, rfl, .ref lg, .ty "list", _, _, _, rfl, .ty _, dp_ty hgc, kit_dp hgc, _, rfl, ifT (by simp [Sm.d, tyN, isaT]) ⟨_, rfl, .inl ⟨rfl, _, SqL.of hlc⟩, lg, _, _, rfl, rfl, hlc, Nat.lt_of_le_of_lt (show xs.length ≤ 100000 by omega) (by decide), ?_⟩⟩
            have e10f : Same H10 (upd Hc lg (.lst (xs ++ [.int 3]))) := e10c.mut nlg
            have hlb : Hb lg = some (.lst xs) := eb _ _ (ea _ _ hlg)
            have enw : Same (nw Hb Hc) (upd Hc lg (.lst (xs ++ [.int 3]))) := fun u o hu => by
              obtain ⟨g1, g2⟩ := nw_inv hu
              rw [upd_ne (fun ab => by rw [ab, hlb] at g1; cases g1)]
              exact g2
            refine join _ _ ⟨some (.ref lg), xm, ?_, hbag.same e10f, hm10.same e10f, hn10.same e10f, ⟨dx, xa, xb, vp, vb, ?_, hTa.mutl ea (eb.trans ec) hlg, hTb.mutl eb ec (ea _ _ hlg), sm enw hvp, sm enw hvb⟩, sm e10f hs10⟩
            · have : lenD (Sm.lst is').d = xs.length := by
                show (is'.map Itm.d).length = _
                rw [List.length_map, hlen]
              rw [this]
              rfl
            · rw [upd_ne (fun ab => by rw [ab, hlb] at hxm; cases hxm)]
              exact hxc
      · refine ⟨_, rfl, .ref tm, m, rfl, ls0.m, fun H2 e2 => ?_, fun H2 t lf xs u e2 hlf ht hxs hx1 hx40 hu => ?_⟩
        · exact ⟨_, rfl, rfl, _, rfl, ifT (decide_eq_true rfl) (iteT ⟨_, rfl, join _ _ ⟨_, _, lr, vs, k + 1, rfl, ls0.same e2, by omega, hk41⟩⟩)⟩
        · have ls1 := ls0.same e2
          have hdue : DueOk H2 (.ref t) := .inr ⟨t, lf, u, rfl, ht, hu⟩
          refine ⟨_, rfl, rfl, _, rfl, ifF (decide_eq_false (fun h => by cases h)) ⟨_, rfl, b, c, 3, rfl, ls1.bag, by decide, by decide, fun H3 k2 e3 hB3 hk2 => ⟨rfl, _, rfl, ?_⟩⟩⟩
          have ls2 : LS K H3 b c (.ref tm) vn m n lr vs (its m n (k + 1)) (.ref t) := (⟨ls1.bag, ls1.m, ls1.n, ls1.row, ls1.nlr, ls1.da, hdue⟩ : LS K H2 b c (.ref tm) vn m n lr vs (its m n (k + 1)) (.ref t)).step e3 hB3
          rcases Nat.decEq k2 0 with hk0 | hk0
          · refine ifF (decide_eq_false fun e => hk0 (by injection e with e; omega)) ?_
            have nlf : lf ≠ b := (ls0.bag.ne hlf).1
            have hlf3 := e3.ne nlf hxs
            have ht3 := (SB.tt e3 ls1.bag) _ _ ht
            refine ⟨_, rfl, t, _, _, _, rfl, rfl, SqT.of ht3, at_of (j := 0) rfl rfl, lf, _, rfl, .inl (SqL.of hlf3), _, rfl, by omega, by omega, fun D hD => lc_gen walk_range sameFn hD (by simp; omega) (fun i v H => Dp K H v (Itm.pr (cIter m i) (some (cIter n i))).d) (fun i v H H' e h => sm e h) (fun _ _ => trivial) (fun i2 y Ha' Hb' hi2 e hDD hy Q' hq => ?_) fun H4 acc e4 hacc hal hR => ?_⟩
            · obtain ⟨rfl, rfl⟩ := hy
              obtain ⟨acc, hacc⟩ := hDD
              have hi2' : i2 < 1000 := by
                have := hi2
                simp at this
                omega
              have ei : V.int (0 + (i2 : Int) + 1) = V.int ((i2 + 1 : Nat) : Int) := by
                congr 1
                omega
              have eah := e.trans hide_same
              refine ⟨rfl, _, rfl, _, rfl, _, _, rfl, rfl, .ref tm, m, i2 + 1, congrArg (fun z => [V.ref tm, z]) ei, ls2.m.same eah, by omega, by omega, fun l1 Hb xs1 hl1 eb h1 hd1 => ?_⟩
              obtain ⟨y1, hy1, hdy1⟩ := dpa_get hd1 (i := i2) (d := dI (cIter m i2)) (by rw [List.getElem?_map, rowsOf_get m (by omega)]; rfl)
              refine ⟨_, rfl, l1, xs1, _, y1, rfl, rfl, SqL.of h1, at_of (j := i2) (by omega) hy1, ?_⟩
              refine ⟨_, rfl, _, rfl, _, _, rfl, rfl, vn, n, i2 + 1, congrArg (fun z => [vn, z]) ei, ls2.n.same (eah.trans eb), by omega, by omega, fun l2 Hc xs2 hl2 ec h2 hd2 => ?_⟩
              obtain ⟨y2, hy2, hdy2⟩ := dpa_get hd2 (i := i2) (d := dI (cIter n i2)) (by rw [List.getElem?_map, rowsOf_get n (by omega)]; rfl)
              refine ⟨_, rfl, l2, xs2, _, y2, rfl, rfl, SqL.of h2, at_of (j := i2) (by omega) hy2, by show 2 ≤ sizeLine; decide, fun t' ht' => ?_⟩
              have ed : Same Hc (upd Hc t' (.tup [y1, y2])) := (Same.refl Hc).new ht'
              have ntl : t' ≠ D := fun ab => by rw [ab, ec _ _ (eb _ _ hacc)] at ht'; cases ht'
              refine hq _ _ (eb.trans (ec.trans ed)) (.tup (SqT.of (by rw [hide_ne ntl]; exact upd_same)) (.cons (sm (nw_hide hacc (ec.trans ed)) hdy1) (.cons (sm (nw_hide (eb _ _ hacc) ed) hdy2) .nil)))
            · have e34 : Same H3 H4 := e4.trans hide_same
              have hal' : acc.length = xs.length := by
                rw [hal]
                simp
              refine join _ _ ⟨_, _, D, acc, xs.length, rfl, ⟨ls2.bag.same e34, ls2.m.same e34, ls2.n.same e34, hacc, (ls2.bag.ne hD).1, ?_, ls2.due.tt e34.tt⟩, hx1, by omega⟩
              refine dpa_of (by rw [List.length_map, its_len]; exact hal') fun i v d h1 h2 => ?_
              have hi : i < xs.length := by rw [← hal']; exact (List.getElem?_eq_some_iff.mp h1).1
              rw [List.getElem?_map, its_get m n hi] at h2
              cases h2
              exact sm hide_same (hR i v h1)
          · exact ifT (decide_eq_true (by rw [hk0]; rfl)) ⟨_, rfl, join _ _ ⟨_, _, lr, vs, k + 1, rfl, ls2, by omega, hk41⟩⟩
  · rintro σ H1 ⟨o2, o3, o4, o5, o6, o7, o8, o9, o10, o11, o12, o13, o14, o15, rfl, hB⟩
    refine ⟨2, rfl, isP2, fun H2 t2 e2 h2 => ⟨.ref t2, odo 2, rfl, h2, fun H3 x2 e3 hx2 => ⟨3, rfl, isP3, fun H4 t3 e4 h3 => ⟨.ref t3, odo 3, rfl, h3, fun H5 x3 e5 hx3 => ⟨_, _, rfl, ?_⟩⟩⟩⟩⟩
    have T2 : TurnerAt K CT H5 x2 (odo 2) := ((hx2.at' e3).same e4).same e5
    have T3 : TurnerAt K CT H5 x3 (odo 3) := hx3.at' e5
    refine ⟨by show 2 ≤ sizeLine; decide, fun l1 n1 => ⟨by show 2 ≤ sizeLine; decide, fun l2 n2 => ⟨by show 2 ≤ sizeLine; decide, fun t1 n3 => ⟨by show 2 ≤ sizeLine; decide, fun l3 n4 => ⟨by show 2 ≤ sizeLine; decide, fun l4 n5 => ⟨by show 2 ≤ sizeLine; decide, fun t2' n6 => ⟨by show 2 ≤ sizeLine; decide, fun lr n7 => ?_⟩⟩⟩⟩⟩⟩⟩
    obtain ⟨e56, hda⟩ := disp4 (K := K) [1, 0] [1, 0] [1, 1] [1, 2] n1 rfl n2 rfl n3 rfl n4 rfl n5 rfl n6 rfl
    dsimp only [List.map] at e56 hda
    generalize upd (upd (upd (upd (upd (upd H5 l1 (.lst [.int 1, .int 0])) l2 (.lst [.int 1, .int 0])) t1 (.tup [.ref l1, .ref l2])) l3 (.lst [.int 1, .int 1])) l4 (.lst [.int 1, .int 2])) t2' (.tup [.ref l3, .ref l4]) = H6 at *
    have e67 : Same H6 (upd H6 lr (.lst [.ref t1, .ref t2'])) := (Same.refl _).new n7
    have h7 : (upd H6 lr (.lst [.ref t1, .ref t2'])) lr = some (.lst [.ref t1, .ref t2']) := upd_same
    generalize upd H6 lr (.lst [.ref t1, .ref t2']) = H7 at *
    have e57 := e56.trans e67
    refine ⟨_, rfl, _, rfl, _, rfl, x2, x3, odo 2, odo 3, .ref lr, .int 1, (Sm.lst bothI).d, (Bk.num 1).d, rfl, ⟨T2.same e57, T3.same e57, .lst (SqL.of h7) (sma e67 hda), by decide, by decide, .int 1, rfl⟩, fun H8 xm dx vp vb hxm hdx e8 hx8 hvp hvb => ?_⟩
    have e58 := e57.trans e8
    have hM1 : MatchAt K CT CM H8 xm (odo 2) (odo 3) (Sm.lst bothI).d (Bk.num 1).d := ⟨dx, x2, x3, vp, vb, hx8, T2.same e58, T3.same e58, sm nw_same hvp, sm nw_same hvb⟩
    refine ⟨xm, dx, _, rfl, hx8, mf_no _ _ _ _ (by decide +kernel) (by decide +kernel) (by decide +kernel) (by decide +kernel), xm, odo 2, odo 3, .lst bothI, .num 1, rfl, hM1, odo_wf isP2, odo_wf isP3, ⟨by decide, both_ok⟩, fun H9 e9 => ?_⟩
    rw [both_holds]
    refine ⟨_, rfl, _, rfl, by show 2 ≤ sizeLine; decide, fun k1 j1 => ⟨by show 2 ≤ sizeLine; decide, fun k2 j2 => ⟨by show 2 ≤ sizeLine; decide, fun u1 j3 => ⟨by show 2 ≤ sizeLine; decide, fun k3 j4 => ⟨by show 2 ≤ sizeLine; decide, fun k4 j5 => ⟨by show 2 ≤ sizeLine; decide, fun u2 j6 => ⟨by show 2 ≤ sizeLine; decide, fun lq j7 => ?_⟩⟩⟩⟩⟩⟩⟩
    obtain ⟨e9a, hdb⟩ := disp4 (K := K) [1, 0] [1, 0] [1, 2] [1, 2] j1 rfl j2 rfl j3 rfl j4 rfl j5 rfl j6 rfl
    dsimp only [List.map] at e9a hdb
    generalize upd (upd (upd (upd (upd (upd H9 k1 (.lst [.int 1, .int 0])) k2 (.lst [.int 1, .int 0])) u1 (.tup [.ref k1, .ref k2])) k3 (.lst [.int 1, .int 2])) k4 (.lst [.int 1, .int 2])) u2 (.tup [.ref k3, .ref k4]) = Ha at *
    have eab : Same Ha (upd Ha lq (.lst [.ref u1, .ref u2])) := (Same.refl _).new j7
    have hb : (upd Ha lq (.lst [.ref u1, .ref u2])) lq = some (.lst [.ref u1, .ref u2]) := upd_same
    generalize upd Ha lq (.lst [.ref u1, .ref u2]) = Hb at *
    have e5b := e58.trans (e9.trans (e9a.trans eab))
    refine ⟨x3, x3, odo 3, odo 3, .ref lq, .int 1, (Sm.lst soI).d, (Bk.num 1).d, rfl, ⟨T3.same e5b, T3.same e5b, .lst (SqL.of hb) (sma eab hdb), by decide, by decide, .int 1, rfl⟩, fun Hc xm2 dx2 vp2 vb2 hxm2 hdx2 ec hx2' hvp2 hvb2 => ?_⟩
    have e5c := e5b.trans ec
    have hM2 : MatchAt K CT CM Hc xm2 (odo 3) (odo 3) (Sm.lst soI).d (Bk.num 1).d := ⟨dx2, x3, x3, vp2, vb2, hx2', T3.same e5c, T3.same e5c, sm nw_same hvp2, sm nw_same hvb2⟩
    refine ⟨xm2, dx2, _, rfl, hx2', mf_no _ _ _ _ (by decide +kernel) (by decide +kernel) (by decide +kernel) (by decide +kernel), xm2, odo 3, odo 3, .lst soI, .num 1, rfl, hM2, odo_wf isP3, odo_wf isP3, ⟨by decide, so_ok⟩, fun Hd ed => ?_⟩
    rw [so_holds]
    refine ⟨by show 2 ≤ sizeLine; decide, fun pt npt => ?_⟩
    have fe : Same Hd (upd Hd pt (.lst [.bl false, .bl true])) := (Same.refl _).new npt
    have he : (upd Hd pt (.lst [.bl false, .bl true])) pt = some (.lst [.bl false, .bl true]) := upd_same
    generalize upd Hd pt (.lst [.bl false, .bl true]) = He at *
    refine ⟨_, rfl, by show 2 ≤ sizeLine; decide, fun p2 np2 => ?_⟩
    have ff : Same He (upd He p2 (.lst [.bl false, .bl true])) := (Same.refl _).new np2
    refine ⟨.ref pt, .ref p2, .list [.bool false, .bool true], rfl, .lst (SqL.of (ff _ _ he)) (.cons (.bl _) (.cons (.bl _) .nil)), .lst (SqL.of upd_same) (.cons (.bl _) (.cons (.bl _) .nil)), by decide, by decide, fun Hf ef => ⟨_, rfl, iteT ⟨_, rfl, x3, rfl, T3.same (e5c.trans (ed.trans (fe.trans (ff.trans ef)))), fun Hg _ => q Hg⟩⟩⟩
end
end L2.K55
namespace L2.K55
open PySem PySem.Spec PyProof.Rows
section
variable {K : PySem.W.Frag} {h : Heap} {mg : Str → Option Value} {x qual : Str} {st : Stmt} {f p C : Addr} {oc : Value} {od an : Option Addr} {osl : Array (Option Value)} {kV doc pm cdv ct : Value}
theorem raw_mk (X : K.In h) (G : h.Ns mainGlobals mg) (a : PySem.W.nsIn K mainGlobals x = some (some (.ref f))) (l : K.lookup f = some ⟨oc, od, .func (PySem.W.fnOf x x (defArgs st) (defBody st) (defScope st) .none kV doc pm an cdv ct), osl⟩)
    (c : PySem.W.codeIn K cdv x = true) (k : PySem.W.keepIn K (.ref f) = true) : Raw K mg x st := ⟨f, _, fun_mk (st := st) l c k, PySem.W.mg_of X G a⟩
theorem rawm_mk (a : PySem.W.findIn K (.ref C) x = some (some (.ref f))) (i : PySem.W.isFn K (.ref f) = true) (l : K.lookup f = some ⟨oc, od, .func (PySem.W.fnOf x qual (defArgs st) (defBody st) (defScope st) .none kV doc pm an cdv ct), osl⟩)
    (c : PySem.W.codeIn K cdv qual = true) (k : PySem.W.keepIn K (.ref f) = true) : RawM K C x qual st := ⟨f, _, fun_mk (st := st) l c k, a, i⟩
theorem rawp_mk {rest : List Value} (a : PySem.W.findIn K (.ref C) x = some (some (.ref p))) (g : PySem.W.specialIn K (.ref p) "__get__" = some (some (.builtin "property.__get__"))) (t : PySem.W.takesIn K (.ref p) = some true) (r : PySem.W.recIn K p "property" = some (.ref f :: rest))
    (l : K.lookup f = some ⟨oc, od, .func (PySem.W.fnOf x qual (defArgs st) (defBody st) (defScope st) .none kV doc pm an cdv ct), osl⟩)
    (c : PySem.W.codeIn K cdv qual = true) (k : PySem.W.keepIn K (.ref f) = true) : RawP K C x qual st := ⟨p, f, _, fun_mk (st := st) l c k, ⟨a, g, t, rest, r⟩⟩
theorem with_raw {Gl : Prop} (x : Str) (st : Stmt) (X : K.In h) (G : h.Ns mainGlobals mg) (a : PySem.W.nsIn K mainGlobals x = some (some (.ref f))) (l : K.lookup f = some ⟨oc, od, .func (PySem.W.fnOf x x (defArgs st) (defBody st) (defScope st) .none kV doc pm an cdv ct), osl⟩)
    (c : PySem.W.codeIn K cdv x = true) (k : PySem.W.keepIn K (.ref f) = true) (z : Raw K mg x st → Gl) : Gl := z (raw_mk X G a l c k)
theorem with_cls {Gl : Prop} (x : Str) (X : K.In h) (G : h.Ns mainGlobals mg) (a : PySem.W.nsIn K mainGlobals x = some (some (.ref C))) (z : mg x = some (.ref C) → Gl) : Gl := z (PySem.W.mg_of X G a)
theorem with_none {Gl : Prop} (x : Str) (X : K.In h) (G : h.Ns mainGlobals mg) (a : PySem.W.nsIn K mainGlobals x = some none) (z : mg x = none → Gl) : Gl := z (PySem.W.mg_none_of X G a)
theorem with_rawm {Gl : Prop} {y : Str} (x qual : Str) (st : Stmt) (hm : mg y = some (.ref C)) (X : K.In h) (a : PySem.W.findIn K (.ref C) x = some (some (.ref f))) (i : PySem.W.isFn K (.ref f) = true) (l : K.lookup f = some ⟨oc, od, .func (PySem.W.fnOf x qual (defArgs st) (defBody st) (defScope st) .none kV doc pm an cdv ct), osl⟩)
    (c : PySem.W.codeIn K cdv qual = true) (k : PySem.W.keepIn K (.ref f) = true) (z : RawM K C x qual st → Gl) : Gl := z (rawm_mk a i l c k)
theorem with_rawp {Gl : Prop} {y : Str} {rest : List Value} (x qual : Str) (st : Stmt) (hm : mg y = some (.ref C)) (X : K.In h) (a : PySem.W.findIn K (.ref C) x = some (some (.ref p))) (g : PySem.W.specialIn K (.ref p) "__get__" = some (some (.builtin "property.__get__"))) (t : PySem.W.takesIn K (.ref p) = some true) (r : PySem.W.recIn K p "property" = some (.ref f :: rest))
    (l : K.lookup f = some ⟨oc, od, .func (PySem.W.fnOf x qual (defArgs st) (defBody st) (defScope st) .none kV doc pm an cdv ct), osl⟩)
    (c : PySem.W.codeIn K cdv qual = true) (k : PySem.W.keepIn K (.ref f) = true) (z : RawP K C x qual st → Gl) : Gl := z (rawp_mk a g t r l c k)
theorem with_find {Gl : Prop} {y : Str} (x : Str) (hm : mg y = some (.ref C)) (v : Option Value) (X : K.In h) (a : PySem.W.findIn K (.ref C) x = some v) (z : PySem.W.findIn K (.ref C) x = some v → Gl) : Gl := z a
theorem with_clsf {Gl : Prop} {y : Str} (hm : mg y = some (.ref C)) (X : K.In h) (pg : PySem.W.plainGet K C Str.empty = true) (hd : PySem.W.hasDictIn K C = true) (po : PySem.W.plainOver K C = true) (sa : PySem.W.findIn K (.ref C) "__setattr__" = some (some (.builtin "object.__setattr__"))) (mk : PySem.W.makesIn K C = true) (kp : PySem.W.keepIn K (.ref C) = true)
    (z : Cls K C → PySem.W.makesIn K C = true → PySem.W.keepIn K (.ref C) = true → Gl) : Gl := z ⟨pg, hd, po, sa⟩ mk kp
theorem with_init {Gl : Prop} {y : Str} (qual : Str) (st : Stmt) (hm : mg y = some (.ref C)) (X : K.In h) (a : PySem.W.findIn K (.ref C) "__init__" = some (some (.ref f))) (i : PySem.W.isFn K (.ref f) = true) (l : K.lookup f = some ⟨oc, od, .func (PySem.W.fnOf "__init__" qual (defArgs st) (defBody st) (defScope st) .none kV doc pm an cdv ct), osl⟩)
    (c : PySem.W.codeIn K cdv qual = true) (k : PySem.W.keepIn K (.ref f) = true) (z : RawM K C "__init__" qual st → Gl) : Gl := z (rawm_mk a i l c k)
theorem with_most {Gl : Prop} {y : Str} {u : Value} (hm : mg y = some (.ref C)) (X : K.In h) (rd : PySem.W.readsIn K C (.type "type") = true) (ga : PySem.W.specialIn K (.ref C) "__getattribute__" = some (some (.builtin "type.__getattribute__"))) (at_ : PySem.W.findCls K (.ref C) (.type "type") "MOST" = some (.val u)) (r : RelV (.int 240) u) (z : TC K C → Gl) : Gl := z ⟨.type "type", u, ⟨rd, ga⟩, ⟨at_, r⟩⟩
theorem kit_self {K : PySem.W.Frag} {C : Addr} : PySem.W.kitOne K (.ref C) (.ref C) = some true := by
  unfold PySem.W.kitOne
  exact if_pos (by simp)
theorem with_te {Gl : Prop} {y : Str} (hm : mg y = some (.ref C)) (X : K.In h) (ha : PySem.W.findIn K (.ref C) "__class__" = some (some (.builtin "object.__class__"))) (hn : PySem.W.specialIn K (.builtin "object.__class__") "__get__" = some (some (.builtin "getset_descriptor.__get__"))) (htk : PySem.W.takesIn K (.builtin "object.__class__") = some true)
    (hmr : PySem.W.mroIn K C (.type "object") = some true) (z : TE1 K C → Gl) : Gl := z ⟨ha, hn, htk, hmr, kit_self⟩
theorem with_primes {Gl : Prop} {a : Addr} {o : Obj} {us : List Value} {n : Nat} (X : K.In h) (G : h.Ns mainGlobals mg) (x : PySem.W.nsIn K mainGlobals "PRIMES" = some (some (.ref a))) (l : K.lookup a = some o) (c : o.cls = .type "tuple") (d : o.data = .seq us.toArray n) (r : Vals [.int 2, .int 3, .int 5, .int 7] us) (z : PrimesAt K mg → Gl) : Gl :=
  z ⟨a, PySem.W.mg_of X G x, fun H => .inr ⟨o, us.toArray, n, l, c, d, by rw [List.size_toArray, ← r.length]; decide, r⟩⟩
theorem rel240 {u : Value} (t : Tok) (h : u = .int 240 t) : RelV (.int 240) u := ⟨t, h⟩
end
section
variable {P : Program} {w : World} {K : PySem.W.Frag} {mg : Str → Option Value} {base : Heap} {CT CM : Addr}
theorem all_known {fl : Addr} {fdl : FuncData} (RL : Fun K "law" "law" s_law fl fdl) (hTm : mg "Turner" = some (.ref CT)) (hMm : mg "Match" = some (.ref CM)) (r_is_number : Raw K mg "is_number" s_is_number) (r_is_within : Raw K mg "is_within" s_is_within) (r_is_list : Raw K mg "is_list" s_is_list) (r_is_figure : Raw K mg "is_figure" s_is_figure) (r_is_prime : Raw K mg "is_prime" s_is_prime) (r_need_prime : Raw K mg "need_prime" s_need_prime) (r_copied : Raw K mg "copied" s_copied) (r_are_counts : Raw K mg "are_counts" s_are_counts) (r_need_counts : Raw K mg "need_counts" s_need_counts) (r_first_counts : Raw K mg "first_counts" s_first_counts) (r_next_counts : Raw K mg "next_counts" s_next_counts) (r_turn_total : Raw K mg "turn_total" s_turn_total) (r_is_chain : Raw K mg "is_chain" s_is_chain) (r_is_state : Raw K mg "is_state" s_is_state) (r_law_bag : Raw K mg "_law_bag" s_law_bag) (r_law_pull : Raw K mg "_law_pull" s_law_pull) (r_law_of : Raw K mg "_law_of" s_law_of) (r_law_mixed : Raw K mg "_law_mixed" s_law_mixed) (r_law_same : Raw K mg "_law_same" s_law_same) (r_law_prime : Raw K mg "_law_prime" s_law_prime) (r_law_figures : Raw K mg "_law_figures" s_law_figures) (r_law_plain : Raw K mg "_law_plain" s_law_plain) (r_law_made : Raw K mg "_law_made" s_law_made) (r_law_undone : Raw K mg "_law_undone" s_law_undone) (r_law_joined : Raw K mg "_law_joined" s_law_joined) (r_law_odometer : Raw K mg "_law_odometer" s_law_odometer) (r_law_single : Raw K mg "_law_single" s_law_single) (r_law_first : Raw K mg "_law_first" s_law_first) (r_law_later : Raw K mg "_law_later" s_law_later) (r_law_sum : Raw K mg "_law_sum" s_law_sum) (r_law_rows_of : Raw K mg "_law_rows_of" s_law_rows_of) (r_law_decided : Raw K mg "_law_decided" s_law_decided) (r_law_doubled : Raw K mg "_law_doubled" s_law_doubled) (r_law_is_row : Raw K mg "_law_is_row" s_law_is_row) (r_law_is_chain : Raw K mg "_law_is_chain" s_law_is_chain) (r_law_single_holds : Raw K mg "_law_single_holds" s_law_single_holds) (r_law_match_holds : Raw K mg "_law_match_holds" s_law_match_holds) (r_law_match_lists_so : Raw K mg "_law_match_lists_so" s_law_match_lists_so) (b_isi : mg "isinstance" = none) (b_len : mg "len" = none) (b_all : mg "all" = none) (b_int : mg "int" = none) (b_range : mg "range" = none) (b_zip : mg "zip" = none) (b_sum : mg "sum" = none) (b_list : mg "list" = none) (b_tuple : mg "tuple" = none) (b_enum : mg "enumerate" = none) (b_repr : mg "repr" = none) (b_str : mg "str" = none) (b_abs : mg "abs" = none) (b_bool : mg "bool" = none) (cT : Cls K CT) (mT : PySem.W.makesIn K CT = true) (kT : PySem.W.keepIn K (.ref CT) = true) (rT_init : RawM K CT "__init__" "Turner.__init__" s_Turner_init) (rT_states : RawM K CT "states" "Turner.states" s_Turner_states) (rT_len : RawM K CT "__len__" "Turner.__len__" s_Turner_len) (rT_eq : RawM K CT "__eq__" "Turner.__eq__" s_Turner_eq) (rT_prime : RawP K CT "prime" "Turner.prime" s_Turner_prime) (rT_start : RawP K CT "start" "Turner.start" s_Turner_start) (nT_own_prime : NoAttr K CT "own_prime") (nT_own_states : NoAttr K CT "own_states") (nT_own_start : NoAttr K CT "own_start") (cM : Cls K CM) (mM : PySem.W.makesIn K CM = true) (kM : PySem.W.keepIn K (.ref CM) = true) (rM_init : RawM K CM "__init__" "Match.__init__" s_Match_init) (rM_holds : RawM K CM "holds" "Match.holds" s_Match_holds) (rM_len : RawM K CM "__len__" "Match.__len__" s_Match_len) (rM_repr : RawM K CM "__repr__" "Match.__repr__" s_Match_repr) (rM_one : RawP K CM "one" "Match.one" s_Match_one) (rM_other : RawP K CM "other" "Match.other" s_Match_other) (rM_pairs : RawP K CM "pairs" "Match.pairs" s_Match_pairs) (rM_back : RawP K CM "back" "Match.back" s_Match_back) (nM_own_one : NoAttr K CM "own_one") (nM_own_other : NoAttr K CM "own_other") (nM_own_pairs : NoAttr K CM "own_pairs") (nM_own_back : NoAttr K CM "own_back") (hne : PySem.W.findIn K (.ref CT) "__ne__" = some (some (.builtin "object.__ne__"))) (tc : TC K CT) (te : TE1 K CT) (pa : PrimesAt K mg) : FnOk P w K mg base CX0 10 fl fdl ["_law_script"] (spLaw K) := by
  have B : Bl mg := ⟨b_isi, b_len, b_all, b_int, b_range, b_zip, b_sum, b_list, b_tuple, b_enum, b_repr, b_str, b_abs, b_bool⟩
  have T : TF K mg CT := ⟨cT, nT_own_prime, nT_own_states, nT_own_start, hTm⟩
  have MT : MF K mg CM := ⟨cM, nM_own_one, nM_own_other, nM_own_pairs, nM_own_back, hMm⟩
  have Fnum := k_is_number (P := P) (w := w) (base := base) r_is_number B
  have Fwi := k_is_within (P := P) (w := w) (base := base) r_is_within Fnum
  have Fli := k_is_list (P := P) (w := w) (base := base) r_is_list B
  have Ffig := k_is_figure (P := P) (w := w) (base := base) r_is_figure Fwi
  have Fpr := k_is_prime (P := P) (w := w) (base := base) r_is_prime pa Fnum
  have Fnp := k_need_prime (P := P) (w := w) (base := base) r_need_prime Fpr
  have Fst := k_is_state (P := P) (w := w) (base := base) r_is_state B Ffig Fwi
  have Fcop := k_copied (P := P) (w := w) (base := base) r_copied B
  have Tpr := k_prime (P := P) (w := w) (base := base) rT_prime T
  have Tst := k_start (P := P) (w := w) (base := base) rT_start T
  have Tlen := k_tlen (P := P) (w := w) (base := base) rT_len T B
  have Tsts := k_states (P := P) (w := w) (base := base) rT_states T B
  have Fare := k_are (P := P) (w := w) (base := base) r_are_counts B T Fli Ffig Tpr Tlen
  have Fneed := k_need (P := P) (w := w) (base := base) r_need_counts Fare
  have Ffirst := k_first (P := P) (w := w) (base := base) r_first_counts B T Tst Tlen
  have Fnext := k_next (P := P) (w := w) (base := base) r_next_counts B T Fneed Tsts Tpr Tlen
  have Ftot := k_total (P := P) (w := w) (base := base) r_turn_total B T Fneed Tsts Tpr
  have Fch := k_chain (P := P) (w := w) (base := base) r_is_chain B T Fli Fare Ffirst Fnext
  have Mone := k_mone (P := P) (w := w) (base := base) (CT := CT) rM_one MT
  have Moth := k_mother (P := P) (w := w) (base := base) (CT := CT) rM_other MT
  have Mprs := k_mpairs (P := P) (w := w) (base := base) (CT := CT) rM_pairs MT Fcop
  have Mbk := k_mback (P := P) (w := w) (base := base) (CT := CT) rM_back MT Fcop
  have Mlen := k_mlen (P := P) (w := w) (base := base) (CT := CT) rM_len MT B Fli
  have Mrep := k_mrepr (P := P) (w := w) (base := base) (CT := CT) rM_repr MT B Mlen
  have Mho := k_holds (P := P) (w := w) (base := base) rM_holds MT T B Fli Fch Fwi Tpr Fnext Ftot
  have Teq := k_teq (P := P) (w := w) (base := base) rT_eq T te B Tpr Tst Tsts
  have Lbag := k_bag (P := P) (w := w) (base := base) r_law_bag B
  have Lpull := k_pull (P := P) (w := w) (base := base) r_law_pull B
  have Lof := k_of (P := P) (w := w) (base := base) r_law_of B Lpull
  have Lmix := k_mixed (P := P) (w := w) (base := base) r_law_mixed B Lpull
  have Lpr := k_lprime (P := P) (w := w) (base := base) r_law_prime Lof
  have Lfig := k_figures (P := P) (w := w) (base := base) r_law_figures B Lpull
  have Lpl := k_plain (P := P) (w := w) (base := base) (K := K) r_law_plain B Lpull Lof Lfig
  have Lun := k_undone (P := P) (w := w) (base := base) r_law_undone B
  have Ljo := k_joined (P := P) (w := w) (base := base) r_law_joined B
  have Lodo := k_odo (P := P) (w := w) (base := base) r_law_odometer
  have Lsi := k_single (P := P) (w := w) (base := base) r_law_single Lpull Lodo Lpl Ljo Lun
  have Ldo := k_doubled (P := P) (w := w) (base := base) (K := K) r_law_doubled B Lpull Lof Lmix
  have Lfi := k_lfirst (P := P) (w := w) (base := base) r_law_first B
  have Lla := k_later (P := P) (w := w) (base := base) r_law_later B
  have Lsu := k_sum (P := P) (w := w) (base := base) r_law_sum B
  have Lro := k_rows_of (P := P) (w := w) (base := base) r_law_rows_of B Lfi Lla
  have Lde := k_decided (P := P) (w := w) (base := base) r_law_decided B Lfi Lla Lsu
  have Lir := k_is_row (P := P) (w := w) (base := base) r_law_is_row B
  have Lch := k_lchain (P := P) (w := w) (base := base) r_law_is_chain B Lir Lro
  have Lsh := k_lsingle (P := P) (w := w) (base := base) r_law_single_holds B Lch Lla Lsu
  have Lju := k_lmatch (P := P) (w := w) (base := base) r_law_match_holds B Lsh Lsu
  have Lsa := k_same (P := P) (w := w) (base := base) r_law_same B
  have KT : KnownT P w K mg base CT := by
    obtain ⟨f, fd, F, a, i⟩ := rT_init
    exact ⟨f, fd, k_tinit F T tc B Fnp Fst Fwi, ⟨mT, a, i, kT⟩, hTm, t_kbn F⟩
  have KC : KnownC P w K mg base CT CM := by
    obtain ⟨f, fd, F, a, i⟩ := rM_init
    exact ⟨f, fd, k_minit F MT Fcop, ⟨mM, a, i, kM⟩, hMm, F.binds fun _ _ _ _ _ _ us hl => match us, hl with | [_, _, _, _, _], _ => rfl⟩
  have Lma := k_made r_law_made B KT
  have Lso := k_so r_law_match_lists_so B MT KC Lsa Mprs Mlen Mho
  exact k_law RL B MT T te hne KC Lbag Lpull Lof Lpr Lsi Ldo Lun Lro Lde Lma Lsa Lju Lodo Lso Mprs Mbk Mone Moth Mlen Mrep Mho Teq
theorem law_all {l : PySem.W.OpenLaw} {h : Heap} {fa : Addr} (X : K.In h) (G : h.Ns mainGlobals mg) (hfa : mg "law" = some (.ref fa)) (hTm : mg "Turner" = some (.ref CT)) (hMm : mg "Match" = some (.ref CM)) (r_is_number : Raw K mg "is_number" s_is_number) (r_is_within : Raw K mg "is_within" s_is_within) (r_is_list : Raw K mg "is_list" s_is_list) (r_is_figure : Raw K mg "is_figure" s_is_figure) (r_is_prime : Raw K mg "is_prime" s_is_prime) (r_need_prime : Raw K mg "need_prime" s_need_prime) (r_copied : Raw K mg "copied" s_copied) (r_are_counts : Raw K mg "are_counts" s_are_counts) (r_need_counts : Raw K mg "need_counts" s_need_counts) (r_first_counts : Raw K mg "first_counts" s_first_counts) (r_next_counts : Raw K mg "next_counts" s_next_counts) (r_turn_total : Raw K mg "turn_total" s_turn_total) (r_is_chain : Raw K mg "is_chain" s_is_chain) (r_is_state : Raw K mg "is_state" s_is_state) (r_law_bag : Raw K mg "_law_bag" s_law_bag) (r_law_pull : Raw K mg "_law_pull" s_law_pull) (r_law_of : Raw K mg "_law_of" s_law_of) (r_law_mixed : Raw K mg "_law_mixed" s_law_mixed) (r_law_same : Raw K mg "_law_same" s_law_same) (r_law_prime : Raw K mg "_law_prime" s_law_prime) (r_law_figures : Raw K mg "_law_figures" s_law_figures) (r_law_plain : Raw K mg "_law_plain" s_law_plain) (r_law_made : Raw K mg "_law_made" s_law_made) (r_law_undone : Raw K mg "_law_undone" s_law_undone) (r_law_joined : Raw K mg "_law_joined" s_law_joined) (r_law_odometer : Raw K mg "_law_odometer" s_law_odometer) (r_law_single : Raw K mg "_law_single" s_law_single) (r_law_first : Raw K mg "_law_first" s_law_first) (r_law_later : Raw K mg "_law_later" s_law_later) (r_law_sum : Raw K mg "_law_sum" s_law_sum) (r_law_rows_of : Raw K mg "_law_rows_of" s_law_rows_of) (r_law_decided : Raw K mg "_law_decided" s_law_decided) (r_law_doubled : Raw K mg "_law_doubled" s_law_doubled) (r_law_is_row : Raw K mg "_law_is_row" s_law_is_row) (r_law_is_chain : Raw K mg "_law_is_chain" s_law_is_chain) (r_law_single_holds : Raw K mg "_law_single_holds" s_law_single_holds) (r_law_match_holds : Raw K mg "_law_match_holds" s_law_match_holds) (r_law_match_lists_so : Raw K mg "_law_match_lists_so" s_law_match_lists_so) (r_law : Raw K mg "law" s_law) (b_isi : mg "isinstance" = none) (b_len : mg "len" = none) (b_all : mg "all" = none) (b_int : mg "int" = none) (b_range : mg "range" = none) (b_zip : mg "zip" = none) (b_sum : mg "sum" = none) (b_list : mg "list" = none) (b_tuple : mg "tuple" = none) (b_enum : mg "enumerate" = none) (b_repr : mg "repr" = none) (b_str : mg "str" = none) (b_abs : mg "abs" = none) (b_bool : mg "bool" = none) (cT : Cls K CT) (mT : PySem.W.makesIn K CT = true) (kT : PySem.W.keepIn K (.ref CT) = true) (rT_init : RawM K CT "__init__" "Turner.__init__" s_Turner_init) (rT_states : RawM K CT "states" "Turner.states" s_Turner_states) (rT_len : RawM K CT "__len__" "Turner.__len__" s_Turner_len) (rT_eq : RawM K CT "__eq__" "Turner.__eq__" s_Turner_eq) (rT_prime : RawP K CT "prime" "Turner.prime" s_Turner_prime) (rT_start : RawP K CT "start" "Turner.start" s_Turner_start) (nT_own_prime : NoAttr K CT "own_prime") (nT_own_states : NoAttr K CT "own_states") (nT_own_start : NoAttr K CT "own_start") (cM : Cls K CM) (mM : PySem.W.makesIn K CM = true) (kM : PySem.W.keepIn K (.ref CM) = true) (rM_init : RawM K CM "__init__" "Match.__init__" s_Match_init) (rM_holds : RawM K CM "holds" "Match.holds" s_Match_holds) (rM_len : RawM K CM "__len__" "Match.__len__" s_Match_len) (rM_repr : RawM K CM "__repr__" "Match.__repr__" s_Match_repr) (rM_one : RawP K CM "one" "Match.one" s_Match_one) (rM_other : RawP K CM "other" "Match.other" s_Match_other) (rM_pairs : RawP K CM "pairs" "Match.pairs" s_Match_pairs) (rM_back : RawP K CM "back" "Match.back" s_Match_back) (nM_own_one : NoAttr K CM "own_one") (nM_own_other : NoAttr K CM "own_other") (nM_own_pairs : NoAttr K CM "own_pairs") (nM_own_back : NoAttr K CM "own_back") (hne : PySem.W.findIn K (.ref CT) "__ne__" = some (some (.builtin "object.__ne__"))) (tc : TC K CT) (te : TE1 K CT) (pa : PrimesAt K mg) :
    ∃ fd : FuncData, (∀ (s : Shared) (u : Value), BindsTo s fd ⟨[u], []⟩ [("_law_script", u)]) ∧ ∀ base : Heap, K.In base → base.Ns mainGlobals mg → FnOk l.prog w K mg base CX0 10 fa fd ["_law_script"] (spLaw K) := by
  obtain ⟨f, fd, F, hm⟩ := r_law
  have e := hfa.symm.trans hm
  cases e
  refine ⟨fd, fun s u => ?_, fun base _ _ => all_known F hTm hMm r_is_number r_is_within r_is_list r_is_figure r_is_prime r_need_prime r_copied r_are_counts r_need_counts r_first_counts r_next_counts r_turn_total r_is_chain r_is_state r_law_bag r_law_pull r_law_of r_law_mixed r_law_same r_law_prime r_law_figures r_law_plain r_law_made r_law_undone r_law_joined r_law_odometer r_law_single r_law_first r_law_later r_law_sum r_law_rows_of r_law_decided r_law_doubled r_law_is_row r_law_is_chain r_law_single_holds r_law_match_holds r_law_match_lists_so b_isi b_len b_all b_int b_range b_zip b_sum b_list b_tuple b_enum b_repr b_str b_abs b_bool cT mT kT rT_init rT_states rT_len rT_eq rT_prime rT_start nT_own_prime nT_own_states nT_own_start cM mM kM rM_init rM_holds rM_len rM_repr rM_one rM_other rM_pairs rM_back nM_own_one nM_own_other nM_own_pairs nM_own_back hne tc te pa⟩
  obtain ⟨oc, od, kV, doc, pm, an, cdv, ct, osl, rfl, lk, hcd⟩ := F.ex
  exact .of_eq rfl
end
theorem walk {l : PySem.W.OpenLaw} {q : Program} {loose : List Str} {XP : (Str → Option Value) → Heap → Prop} {YP : World → Heap → Prop} {d : DefRec} {K : Params → PySem.W.Frag} (hn : l.most = some 63) (hdf : d.params.defaults = [])
    (hY : ∀ (w : World) (h : Heap), YP w h → (K w.params).In h)
    (F : ∀ (w : World) (mg : Str → Option Value) (fa : Addr) (h : Heap), (K w.params).In h → h.Ns mainGlobals mg → mg d.name = some (.ref fa) →
      ∃ fd : FuncData, (∀ (s : Shared) (u : Value), BindsTo s fd ⟨[u], []⟩ [("_law_script", u)]) ∧ ∀ base : Heap, (K w.params).In base → base.Ns mainGlobals mg → FnOk l.prog w (K w.params) mg base CX0 10 fa fd ["_law_script"] (spLaw (K w.params))) :
    PySem.W.WalkO q loose XP YP l.row.toRowW d [] (fun f vs => PySem.call f vs) :=
  L2.walk_of (n := 63) (k := 10) (x := "_law_script") (CX := fun _ => CX0) (sp := fun w => spLaw (K w.params)) hn (by decide) hdf ⟨rfl, by decide, by decide⟩ hY F (fun _ _ a ns hl _ hS => ⟨a, ns, rfl, hS, hl, fun _ => rfl⟩) fun _ _ _ _ _ z => z
end L2.K55
open PySem PySem.W PyProof.Rows
set_option maxHeartbeats 0
open_top head for PySem.Challenge.rw_lowturns_k55_whole_matches_judged
theorem PySem.Challenge.cw_lowturns_k55_whole_matches_judged_holds : PySem.Challenge.rw_lowturns_k55_whole_matches_judged.Holds := by
  refine head ?_
  refine L2.K55.walk (l := PySem.Challenge.rw_lowturns_k55_whole_matches_judged) rfl rfl (fun w h Y => PySem.W.kIn_of Y) ?F
  case F =>
    intro w mg fa h KX G hmg
    refine' L2.K55.with_cls "Turner" KX G ?a1 fun hTm => ?z1
    (case a1 => k_is)
    refine' L2.K55.with_cls "Match" KX G ?a2 fun hMm => ?z2
    (case a2 => k_is)
    refine' L2.K55.with_raw "is_number" L2.K55.s_is_number KX G ?a3 ?l3 ?c3 ?k3 fun r_is_number => ?z3
    (case a3 => k_is)
    (case l3 => k_is)
    (case c3 => k_is)
    (case k3 => k_is)
    refine' L2.K55.with_raw "is_within" L2.K55.s_is_within KX G ?a4 ?l4 ?c4 ?k4 fun r_is_within => ?z4
    (case a4 => k_is)
    (case l4 => k_is)
    (case c4 => k_is)
    (case k4 => k_is)
    refine' L2.K55.with_raw "is_list" L2.K55.s_is_list KX G ?a5 ?l5 ?c5 ?k5 fun r_is_list => ?z5
    (case a5 => k_is)
    (case l5 => k_is)
    (case c5 => k_is)
    (case k5 => k_is)
    refine' L2.K55.with_raw "is_figure" L2.K55.s_is_figure KX G ?a6 ?l6 ?c6 ?k6 fun r_is_figure => ?z6
    (case a6 => k_is)
    (case l6 => k_is)
    (case c6 => k_is)
    (case k6 => k_is)
    refine' L2.K55.with_raw "is_prime" L2.K55.s_is_prime KX G ?a7 ?l7 ?c7 ?k7 fun r_is_prime => ?z7
    (case a7 => k_is)
    (case l7 => k_is)
    (case c7 => k_is)
    (case k7 => k_is)
    refine' L2.K55.with_raw "need_prime" L2.K55.s_need_prime KX G ?a8 ?l8 ?c8 ?k8 fun r_need_prime => ?z8
    (case a8 => k_is)
    (case l8 => k_is)
    (case c8 => k_is)
    (case k8 => k_is)
    refine' L2.K55.with_raw "copied" L2.K55.s_copied KX G ?a9 ?l9 ?c9 ?k9 fun r_copied => ?z9
    (case a9 => k_is)
    (case l9 => k_is)
    (case c9 => k_is)
    (case k9 => k_is)
    refine' L2.K55.with_raw "are_counts" L2.K55.s_are_counts KX G ?a10 ?l10 ?c10 ?k10 fun r_are_counts => ?z10
    (case a10 => k_is)
    (case l10 => k_is)
    (case c10 => k_is)
    (case k10 => k_is)
    refine' L2.K55.with_raw "need_counts" L2.K55.s_need_counts KX G ?a11 ?l11 ?c11 ?k11 fun r_need_counts => ?z11
    (case a11 => k_is)
    (case l11 => k_is)
    (case c11 => k_is)
    (case k11 => k_is)
    refine' L2.K55.with_raw "first_counts" L2.K55.s_first_counts KX G ?a12 ?l12 ?c12 ?k12 fun r_first_counts => ?z12
    (case a12 => k_is)
    (case l12 => k_is)
    (case c12 => k_is)
    (case k12 => k_is)
    refine' L2.K55.with_raw "next_counts" L2.K55.s_next_counts KX G ?a13 ?l13 ?c13 ?k13 fun r_next_counts => ?z13
    (case a13 => k_is)
    (case l13 => k_is)
    (case c13 => k_is)
    (case k13 => k_is)
    refine' L2.K55.with_raw "turn_total" L2.K55.s_turn_total KX G ?a14 ?l14 ?c14 ?k14 fun r_turn_total => ?z14
    (case a14 => k_is)
    (case l14 => k_is)
    (case c14 => k_is)
    (case k14 => k_is)
    refine' L2.K55.with_raw "is_chain" L2.K55.s_is_chain KX G ?a15 ?l15 ?c15 ?k15 fun r_is_chain => ?z15
    (case a15 => k_is)
    (case l15 => k_is)
    (case c15 => k_is)
    (case k15 => k_is)
    refine' L2.K55.with_raw "is_state" L2.K55.s_is_state KX G ?a16 ?l16 ?c16 ?k16 fun r_is_state => ?z16
    (case a16 => k_is)
    (case l16 => k_is)
    (case c16 => k_is)
    (case k16 => k_is)
    refine' L2.K55.with_raw "_law_bag" L2.K55.s_law_bag KX G ?a17 ?l17 ?c17 ?k17 fun r_law_bag => ?z17
    (case a17 => k_is)
    (case l17 => k_is)
    (case c17 => k_is)
    (case k17 => k_is)
    refine' L2.K55.with_raw "_law_pull" L2.K55.s_law_pull KX G ?a18 ?l18 ?c18 ?k18 fun r_law_pull => ?z18
    (case a18 => k_is)
    (case l18 => k_is)
    (case c18 => k_is)
    (case k18 => k_is)
    refine' L2.K55.with_raw "_law_of" L2.K55.s_law_of KX G ?a19 ?l19 ?c19 ?k19 fun r_law_of => ?z19
    (case a19 => k_is)
    (case l19 => k_is)
    (case c19 => k_is)
    (case k19 => k_is)
    refine' L2.K55.with_raw "_law_mixed" L2.K55.s_law_mixed KX G ?a20 ?l20 ?c20 ?k20 fun r_law_mixed => ?z20
    (case a20 => k_is)
    (case l20 => k_is)
    (case c20 => k_is)
    (case k20 => k_is)
    refine' L2.K55.with_raw "_law_same" L2.K55.s_law_same KX G ?a21 ?l21 ?c21 ?k21 fun r_law_same => ?z21
    (case a21 => k_is)
    (case l21 => k_is)
    (case c21 => k_is)
    (case k21 => k_is)
    refine' L2.K55.with_raw "_law_prime" L2.K55.s_law_prime KX G ?a22 ?l22 ?c22 ?k22 fun r_law_prime => ?z22
    (case a22 => k_is)
    (case l22 => k_is)
    (case c22 => k_is)
    (case k22 => k_is)
    refine' L2.K55.with_raw "_law_figures" L2.K55.s_law_figures KX G ?a23 ?l23 ?c23 ?k23 fun r_law_figures => ?z23
    (case a23 => k_is)
    (case l23 => k_is)
    (case c23 => k_is)
    (case k23 => k_is)
    refine' L2.K55.with_raw "_law_plain" L2.K55.s_law_plain KX G ?a24 ?l24 ?c24 ?k24 fun r_law_plain => ?z24
    (case a24 => k_is)
    (case l24 => k_is)
    (case c24 => k_is)
    (case k24 => k_is)
    refine' L2.K55.with_raw "_law_made" L2.K55.s_law_made KX G ?a25 ?l25 ?c25 ?k25 fun r_law_made => ?z25
    (case a25 => k_is)
    (case l25 => k_is)
    (case c25 => k_is)
    (case k25 => k_is)
    refine' L2.K55.with_raw "_law_undone" L2.K55.s_law_undone KX G ?a26 ?l26 ?c26 ?k26 fun r_law_undone => ?z26
    (case a26 => k_is)
    (case l26 => k_is)
    (case c26 => k_is)
    (case k26 => k_is)
    refine' L2.K55.with_raw "_law_joined" L2.K55.s_law_joined KX G ?a27 ?l27 ?c27 ?k27 fun r_law_joined => ?z27
    (case a27 => k_is)
    (case l27 => k_is)
    (case c27 => k_is)
    (case k27 => k_is)
    refine' L2.K55.with_raw "_law_odometer" L2.K55.s_law_odometer KX G ?a28 ?l28 ?c28 ?k28 fun r_law_odometer => ?z28
    (case a28 => k_is)
    (case l28 => k_is)
    (case c28 => k_is)
    (case k28 => k_is)
    refine' L2.K55.with_raw "_law_single" L2.K55.s_law_single KX G ?a29 ?l29 ?c29 ?k29 fun r_law_single => ?z29
    (case a29 => k_is)
    (case l29 => k_is)
    (case c29 => k_is)
    (case k29 => k_is)
    refine' L2.K55.with_raw "_law_first" L2.K55.s_law_first KX G ?a30 ?l30 ?c30 ?k30 fun r_law_first => ?z30
    (case a30 => k_is)
    (case l30 => k_is)
    (case c30 => k_is)
    (case k30 => k_is)
    refine' L2.K55.with_raw "_law_later" L2.K55.s_law_later KX G ?a31 ?l31 ?c31 ?k31 fun r_law_later => ?z31
    (case a31 => k_is)
    (case l31 => k_is)
    (case c31 => k_is)
    (case k31 => k_is)
    refine' L2.K55.with_raw "_law_sum" L2.K55.s_law_sum KX G ?a32 ?l32 ?c32 ?k32 fun r_law_sum => ?z32
    (case a32 => k_is)
    (case l32 => k_is)
    (case c32 => k_is)
    (case k32 => k_is)
    refine' L2.K55.with_raw "_law_rows_of" L2.K55.s_law_rows_of KX G ?a33 ?l33 ?c33 ?k33 fun r_law_rows_of => ?z33
    (case a33 => k_is)
    (case l33 => k_is)
    (case c33 => k_is)
    (case k33 => k_is)
    refine' L2.K55.with_raw "_law_decided" L2.K55.s_law_decided KX G ?a34 ?l34 ?c34 ?k34 fun r_law_decided => ?z34
    (case a34 => k_is)
    (case l34 => k_is)
    (case c34 => k_is)
    (case k34 => k_is)
    refine' L2.K55.with_raw "_law_doubled" L2.K55.s_law_doubled KX G ?a35 ?l35 ?c35 ?k35 fun r_law_doubled => ?z35
    (case a35 => k_is)
    (case l35 => k_is)
    (case c35 => k_is)
    (case k35 => k_is)
    refine' L2.K55.with_raw "_law_is_row" L2.K55.s_law_is_row KX G ?a36 ?l36 ?c36 ?k36 fun r_law_is_row => ?z36
    (case a36 => k_is)
    (case l36 => k_is)
    (case c36 => k_is)
    (case k36 => k_is)
    refine' L2.K55.with_raw "_law_is_chain" L2.K55.s_law_is_chain KX G ?a37 ?l37 ?c37 ?k37 fun r_law_is_chain => ?z37
    (case a37 => k_is)
    (case l37 => k_is)
    (case c37 => k_is)
    (case k37 => k_is)
    refine' L2.K55.with_raw "_law_single_holds" L2.K55.s_law_single_holds KX G ?a38 ?l38 ?c38 ?k38 fun r_law_single_holds => ?z38
    (case a38 => k_is)
    (case l38 => k_is)
    (case c38 => k_is)
    (case k38 => k_is)
    refine' L2.K55.with_raw "_law_match_holds" L2.K55.s_law_match_holds KX G ?a39 ?l39 ?c39 ?k39 fun r_law_match_holds => ?z39
    (case a39 => k_is)
    (case l39 => k_is)
    (case c39 => k_is)
    (case k39 => k_is)
    refine' L2.K55.with_raw "_law_match_lists_so" L2.K55.s_law_match_lists_so KX G ?a40 ?l40 ?c40 ?k40 fun r_law_match_lists_so => ?z40
    (case a40 => k_is)
    (case l40 => k_is)
    (case c40 => k_is)
    (case k40 => k_is)
    refine' L2.K55.with_raw "law" L2.K55.s_law KX G ?a41 ?l41 ?c41 ?k41 fun r_law => ?z41
    (case a41 => k_is)
    (case l41 => k_is)
    (case c41 => k_is)
    (case k41 => k_is)
    refine' L2.K55.with_none "isinstance" KX G ?a42 fun b_isi => ?z42
    (case a42 => k_is)
    refine' L2.K55.with_none "len" KX G ?a43 fun b_len => ?z43
    (case a43 => k_is)
    refine' L2.K55.with_none "all" KX G ?a44 fun b_all => ?z44
    (case a44 => k_is)
    refine' L2.K55.with_none "int" KX G ?a45 fun b_int => ?z45
    (case a45 => k_is)
    refine' L2.K55.with_none "range" KX G ?a46 fun b_range => ?z46
    (case a46 => k_is)
    refine' L2.K55.with_none "zip" KX G ?a47 fun b_zip => ?z47
    (case a47 => k_is)
    refine' L2.K55.with_none "sum" KX G ?a48 fun b_sum => ?z48
    (case a48 => k_is)
    refine' L2.K55.with_none "list" KX G ?a49 fun b_list => ?z49
    (case a49 => k_is)
    refine' L2.K55.with_none "tuple" KX G ?a50 fun b_tuple => ?z50
    (case a50 => k_is)
    refine' L2.K55.with_none "enumerate" KX G ?a51 fun b_enum => ?z51
    (case a51 => k_is)
    refine' L2.K55.with_none "repr" KX G ?a52 fun b_repr => ?z52
    (case a52 => k_is)
    refine' L2.K55.with_none "str" KX G ?a53 fun b_str => ?z53
    (case a53 => k_is)
    refine' L2.K55.with_none "abs" KX G ?a54 fun b_abs => ?z54
    (case a54 => k_is)
    refine' L2.K55.with_none "bool" KX G ?a55 fun b_bool => ?z55
    (case a55 => k_is)
    refine' L2.K55.with_clsf hTm KX ?pg56 ?hd56 ?po56 ?sa56 ?mk56 ?kp56 fun cT mT kT => ?z56
    (case pg56 => k_is)
    (case hd56 => k_is)
    (case po56 => k_is)
    (case sa56 => k_is)
    (case mk56 => k_is)
    (case kp56 => k_is)
    refine' L2.K55.with_rawm "__init__" "Turner.__init__" L2.K55.s_Turner_init hTm KX ?a57 ?i57 ?l57 ?c57 ?k57 fun rT_init => ?z57
    (case a57 => k_is)
    (case i57 => k_is)
    (case l57 => k_is)
    (case c57 => k_is)
    (case k57 => k_is)
    refine' L2.K55.with_rawm "states" "Turner.states" L2.K55.s_Turner_states hTm KX ?a58 ?i58 ?l58 ?c58 ?k58 fun rT_states => ?z58
    (case a58 => k_is)
    (case i58 => k_is)
    (case l58 => k_is)
    (case c58 => k_is)
    (case k58 => k_is)
    refine' L2.K55.with_rawm "__len__" "Turner.__len__" L2.K55.s_Turner_len hTm KX ?a59 ?i59 ?l59 ?c59 ?k59 fun rT_len => ?z59
    (case a59 => k_is)
    (case i59 => k_is)
    (case l59 => k_is)
    (case c59 => k_is)
    (case k59 => k_is)
    refine' L2.K55.with_rawm "__eq__" "Turner.__eq__" L2.K55.s_Turner_eq hTm KX ?a60 ?i60 ?l60 ?c60 ?k60 fun rT_eq => ?z60
    (case a60 => k_is)
    (case i60 => k_is)
    (case l60 => k_is)
    (case c60 => k_is)
    (case k60 => k_is)
    refine' L2.K55.with_rawp "prime" "Turner.prime" L2.K55.s_Turner_prime hTm KX ?a61 ?g61 ?t61 ?r61 ?l61 ?c61 ?k61 fun rT_prime => ?z61
    (case a61 => k_is)
    (case g61 => k_is)
    (case t61 => k_is)
    (case r61 => k_is)
    (case l61 => k_is)
    (case c61 => k_is)
    (case k61 => k_is)
    refine' L2.K55.with_rawp "start" "Turner.start" L2.K55.s_Turner_start hTm KX ?a62 ?g62 ?t62 ?r62 ?l62 ?c62 ?k62 fun rT_start => ?z62
    (case a62 => k_is)
    (case g62 => k_is)
    (case t62 => k_is)
    (case r62 => k_is)
    (case l62 => k_is)
    (case c62 => k_is)
    (case k62 => k_is)
    refine' L2.K55.with_find "own_prime" hTm none KX ?a63 fun nT_own_prime => ?z63
    (case a63 => k_is)
    refine' L2.K55.with_find "own_states" hTm none KX ?a64 fun nT_own_states => ?z64
    (case a64 => k_is)
    refine' L2.K55.with_find "own_start" hTm none KX ?a65 fun nT_own_start => ?z65
    (case a65 => k_is)
    refine' L2.K55.with_clsf hMm KX ?pg66 ?hd66 ?po66 ?sa66 ?mk66 ?kp66 fun cM mM kM => ?z66
    (case pg66 => k_is)
    (case hd66 => k_is)
    (case po66 => k_is)
    (case sa66 => k_is)
    (case mk66 => k_is)
    (case kp66 => k_is)
    refine' L2.K55.with_rawm "__init__" "Match.__init__" L2.K55.s_Match_init hMm KX ?a67 ?i67 ?l67 ?c67 ?k67 fun rM_init => ?z67
    (case a67 => k_is)
    (case i67 => k_is)
    (case l67 => k_is)
    (case c67 => k_is)
    (case k67 => k_is)
    refine' L2.K55.with_rawm "holds" "Match.holds" L2.K55.s_Match_holds hMm KX ?a68 ?i68 ?l68 ?c68 ?k68 fun rM_holds => ?z68
    (case a68 => k_is)
    (case i68 => k_is)
    (case l68 => k_is)
    (case c68 => k_is)
    (case k68 => k_is)
    refine' L2.K55.with_rawm "__len__" "Match.__len__" L2.K55.s_Match_len hMm KX ?a69 ?i69 ?l69 ?c69 ?k69 fun rM_len => ?z69
    (case a69 => k_is)
    (case i69 => k_is)
    (case l69 => k_is)
    (case c69 => k_is)
    (case k69 => k_is)
    refine' L2.K55.with_rawm "__repr__" "Match.__repr__" L2.K55.s_Match_repr hMm KX ?a70 ?i70 ?l70 ?c70 ?k70 fun rM_repr => ?z70
    (case a70 => k_is)
    (case i70 => k_is)
    (case l70 => k_is)
    (case c70 => k_is)
    (case k70 => k_is)
    refine' L2.K55.with_rawp "one" "Match.one" L2.K55.s_Match_one hMm KX ?a71 ?g71 ?t71 ?r71 ?l71 ?c71 ?k71 fun rM_one => ?z71
    (case a71 => k_is)
    (case g71 => k_is)
    (case t71 => k_is)
    (case r71 => k_is)
    (case l71 => k_is)
    (case c71 => k_is)
    (case k71 => k_is)
    refine' L2.K55.with_rawp "other" "Match.other" L2.K55.s_Match_other hMm KX ?a72 ?g72 ?t72 ?r72 ?l72 ?c72 ?k72 fun rM_other => ?z72
    (case a72 => k_is)
    (case g72 => k_is)
    (case t72 => k_is)
    (case r72 => k_is)
    (case l72 => k_is)
    (case c72 => k_is)
    (case k72 => k_is)
    refine' L2.K55.with_rawp "pairs" "Match.pairs" L2.K55.s_Match_pairs hMm KX ?a73 ?g73 ?t73 ?r73 ?l73 ?c73 ?k73 fun rM_pairs => ?z73
    (case a73 => k_is)
    (case g73 => k_is)
    (case t73 => k_is)
    (case r73 => k_is)
    (case l73 => k_is)
    (case c73 => k_is)
    (case k73 => k_is)
    refine' L2.K55.with_rawp "back" "Match.back" L2.K55.s_Match_back hMm KX ?a74 ?g74 ?t74 ?r74 ?l74 ?c74 ?k74 fun rM_back => ?z74
    (case a74 => k_is)
    (case g74 => k_is)
    (case t74 => k_is)
    (case r74 => k_is)
    (case l74 => k_is)
    (case c74 => k_is)
    (case k74 => k_is)
    refine' L2.K55.with_find "own_one" hMm none KX ?a75 fun nM_own_one => ?z75
    (case a75 => k_is)
    refine' L2.K55.with_find "own_other" hMm none KX ?a76 fun nM_own_other => ?z76
    (case a76 => k_is)
    refine' L2.K55.with_find "own_pairs" hMm none KX ?a77 fun nM_own_pairs => ?z77
    (case a77 => k_is)
    refine' L2.K55.with_find "own_back" hMm none KX ?a78 fun nM_own_back => ?z78
    (case a78 => k_is)
    refine' L2.K55.with_find "__ne__" hTm (some (.builtin "object.__ne__")) KX ?a79 fun hne => ?z79
    (case a79 => k_is)
    refine' L2.K55.with_most hTm KX ?rd80 ?ga80 ?at80 ?r80 fun tc => ?z80
    (case rd80 => k_is)
    (case ga80 => k_is)
    (case at80 => k_is)
    (case r80 => exact ⟨_, rfl⟩)
    refine' L2.K55.with_te hTm KX ?ha81 ?hn81 ?ht81 ?hm81 fun te => ?z81
    (case ha81 => k_is)
    (case hn81 => k_is)
    (case ht81 => k_is)
    (case hm81 => k_is)
    refine' L2.K55.with_primes KX G ?x82 ?l82 ?c82 ?d82 ?r82 fun pa => ?z82
    (case x82 => k_is)
    (case l82 => k_is)
    (case c82 => rfl)
    (case d82 => rfl)
    (case r82 => exact .cons ⟨_, rfl⟩ (.cons ⟨_, rfl⟩ (.cons ⟨_, rfl⟩ (.cons ⟨_, rfl⟩ .nil))))
    exact L2.K55.law_all KX G hmg hTm hMm r_is_number r_is_within r_is_list r_is_figure r_is_prime r_need_prime r_copied r_are_counts r_need_counts r_first_counts r_next_counts r_turn_total r_is_chain r_is_state r_law_bag r_law_pull r_law_of r_law_mixed r_law_same r_law_prime r_law_figures r_law_plain r_law_made r_law_undone r_law_joined r_law_odometer r_law_single r_law_first r_law_later r_law_sum r_law_rows_of r_law_decided r_law_doubled r_law_is_row r_law_is_chain r_law_single_holds r_law_match_holds r_law_match_lists_so r_law b_isi b_len b_all b_int b_range b_zip b_sum b_list b_tuple b_enum b_repr b_str b_abs b_bool cT mT kT rT_init rT_states rT_len rT_eq rT_prime rT_start nT_own_prime nT_own_states nT_own_start cM mM kM rM_init rM_holds rM_len rM_repr rM_one rM_other rM_pairs rM_back nM_own_one nM_own_other nM_own_pairs nM_own_back hne tc te pa
