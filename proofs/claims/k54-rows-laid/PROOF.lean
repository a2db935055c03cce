import PyProof.Rows.All
import Wide.All
import OpenK.AllK
import Wide.FinOn
import HandS.ForMost
import HandS.Conv
import HandS.RevRange
import HandS.WideBits
import HandS.Wide
import HandS.IsInst
import HandS.TupLe
import HandS.Zip
import HandS.Codes
import KE.GoesEnum
import PySem.Challenge.RW_splitseed_k54_rows_laid_and_undone
set_option Elab.async false
set_option linter.all false
set_option maxRecDepth 100000
set_option maxHeartbeats 200000
namespace S
open PySem L2
/-! ### my own small words -/
theorem ifT {c : Bool} {A B : Prop} (hc : c = true) (h : A) : if c = true then A else B := by rw [if_pos hc]; exact h
theorem ifF {c : Bool} {A B : Prop} (hc : c = false) (h : B) : if c = true then A else B := by
  rw [hc, if_neg Bool.false_ne_true]; exact h
theorem _root_.L2.Same.g {H H' : Hp} {b : Addr} {o : HO} (s : Same H H') (h : H b = some o) : H' b = some o := s b o h
theorem ne_nn {H : Hp} {a b : Addr} {o : HO} (h' : H b = none) (h : H a = some o) : a ≠ b := ne_of_none h h'
/-- all but what stands at a is kept -/
def Fr (a : Addr) (H H' : Hp) : Prop := ∀ b o, b ≠ a → H b = some o → H' b = some o
theorem Fr.g {a : Addr} {H H' : Hp} {b : Addr} {o : HO} (f : Fr a H H') (n : b ≠ a) (h : H b = some o) : H' b = some o := f b o n h
theorem Fr.refl (a : Addr) (H : Hp) : Fr a H H := fun _ _ _ h => h
theorem Fr.trans {a : Addr} {H H1 H2 : Hp} (f : Fr a H H1) (g : Fr a H1 H2) : Fr a H H2 := fun b o n h => g b o n (f b o n h)
theorem Fr.ofSame {a : Addr} {H H' : Hp} (s : Same H H') : Fr a H H' := fun b o _ h => s b o h
theorem Fr.put {a : Addr} {H : Hp} {o : HO} : Fr a H (upd H a o) := fun b u n h => by rw [upd_ne n]; exact h
theorem _root_.L2.Same.new {H : Hp} {p : Addr} {o : HO} (h : H p = none) : Same H (upd H p o) := fun b u e => by
  rw [upd_ne (ne_of_none e h)]; exact e
/-- an object that H does not know may change -/
theorem _root_.L2.Same.mut {H H' : Hp} {p : Addr} {o : HO} (e : Same H H') (h : H p = none) : Same H (upd H' p o) := fun b u q => by
  rw [upd_ne (ne_of_none q h)]; exact e b u q
theorem Fr.mut {a : Addr} {H H' : Hp} {p : Addr} {o : HO} (e : Fr a H H') (h : H p = none) : Fr a H (upd H' p o) := fun b u n q => by
  rw [upd_ne (ne_of_none q h)]; exact e b u n q
theorem Fr.free {a p : Addr} {H H' : Hp} {o : HO} (f : Fr a H H') (ha : H' a = some o) (h : H' p = none) : H p = none := by
  cases q : H p with
  | none => rfl
  | some u =>
    have n : p ≠ a := fun e => by rw [e, ha] at h; cases h
    rw [f p u n q] at h; cases h
theorem _root_.L2.Same.tup {K : PySem.W.Frag} {H H' : Hp} {a : Addr} {xs : List V} (e : Same H H') : SqT K H a xs → SqT K H' a xs
  | .inl (.inl h) => .inl (.inl (e _ _ h))
  | .inl (.inr ⟨o, h⟩) => .inl (.inr ⟨o, e _ _ h⟩)
  | .inr h => .inr h
abbrev wl (x y z : Int) : HO := .lst [.int x, .int y, .int z]
/-! ### kinds of things -/
inductive Kd where | non | bl | int | str | lst | tup | dct
  deriving DecidableEq
def Kd.nm : Kd → String
  | .non => "NoneType" | .bl => "bool" | .int => "int" | .str => "str" | .lst => "list" | .tup => "tuple" | .dct => "dict"
def Kn (K : PySem.W.Frag) (H : Hp) (x : V) (k : Kd) : Prop := TyX K H x (.type k.nm)
theorem kb_int (k : Kd) : kitB k.nm "int" = some (decide (k = .int ∨ k = .bl)) := by cases k <;> decide +kernel
theorem kb_bool (k : Kd) : kitB k.nm "bool" = some (decide (k = .bl)) := by cases k <;> decide +kernel
theorem kb_str (k : Kd) : kitB k.nm "str" = some (decide (k = .str)) := by cases k <;> decide +kernel
theorem kb_list (k : Kd) : kitB k.nm "list" = some (decide (k = .lst)) := by cases k <;> decide +kernel
theorem kb_tuple (k : Kd) : kitB k.nm "tuple" = some (decide (k = .tup)) := by cases k <;> decide +kernel
theorem kb_dict (k : Kd) : kitB k.nm "dict" = some (decide (k = .dct)) := by cases k <;> decide +kernel
theorem kn_int {K : PySem.W.Frag} {H : Hp} (i : Int) : Kn K H (.int i) .int := .base (.int i)
theorem kn_bl {K : PySem.W.Frag} {H : Hp} (b : Bool) : Kn K H (.bl b) .bl := .base (.bl b)
theorem kn_non {K : PySem.W.Frag} {H : Hp} : Kn K H .non .non := .base .non
theorem kn_str {K : PySem.W.Frag} {H : Hp} (x : Str) : Kn K H (.str x) .str := .base (.str x)
theorem kn_lst {K : PySem.W.Frag} {H : Hp} {a : Addr} {xs : List V} (e : H a = some (.lst xs)) : Kn K H (.ref a) .lst := .base (.lst e)
theorem kn_tup {K : PySem.W.Frag} {H : Hp} {a : Addr} {xs : List V} (e : H a = some (.tup xs)) : Kn K H (.ref a) .tup := .base (.tup e)
theorem kn_dK {K : PySem.W.Frag} {H : Hp} {a : Addr} {xs : List (Key × V)} (e : H a = some (.dK xs)) : Kn K H (.ref a) .dct := .base (.dK e)
def isI : V → Bool | .int _ => true | _ => false
def isB : V → Bool | .bl _ => true | _ => false
def isS : V → Bool | .str _ => true | _ => false
theorem Kn.isI {K : PySem.W.Frag} {H : Hp} {x : V} {k : Kd} (h : Kn K H x k) : S.isI x = decide (k = .int) := by
  unfold Kn at h
  generalize e : Value.type k.nm = u at h
  cases h with
  | base b => cases b <;> (cases k <;> first | rfl | (exfalso; revert e; simp [Kd.nm]))
  | _ => cases k <;> first | rfl | (exfalso; revert e; simp [Kd.nm])
theorem Kn.isB {K : PySem.W.Frag} {H : Hp} {x : V} {k : Kd} (h : Kn K H x k) : S.isB x = decide (k = .bl) := by
  unfold Kn at h
  generalize e : Value.type k.nm = u at h
  cases h with
  | base b => cases b <;> (cases k <;> first | rfl | (exfalso; revert e; simp [Kd.nm]))
  | _ => cases k <;> first | rfl | (exfalso; revert e; simp [Kd.nm])
theorem Kn.isS {K : PySem.W.Frag} {H : Hp} {x : V} {k : Kd} (h : Kn K H x k) : S.isS x = decide (k = .str) := by
  unfold Kn at h
  generalize e : Value.type k.nm = u at h
  cases h with
  | base b => cases b <;> (cases k <;> first | rfl | (exfalso; revert e; simp [Kd.nm]))
  | _ => cases k <;> first | rfl | (exfalso; revert e; simp [Kd.nm])
def wb (x : V) (lo hi : Int) : Bool := match x with | .int i => decide (lo ≤ i) && decide (i ≤ hi) | _ => false
/-! ### a list or a tuple -/
def sq (b : Bool) (xs : List V) : HO := if b then .tup xs else .lst xs
def Itb (b : Bool) (K : PySem.W.Frag) (a : Addr) : It := if b then Itt K a else Itl K a
def iSeq (K : PySem.W.Frag) (tl : TE) : TI := fun σ H R => tl σ H fun x H1 => ∃ (a : Addr) (b : Bool) (xs : List V), x = .ref a ∧ H1 a = some (sq b xs) ∧ R (Itb b K a) H1
theorem pi_seq {X : Cx} {tg l : Expr} {tl : TE} (he : PE X l tl) : PI X tg l (iSeq X.K tl) := by
  constructor
  intro ps st σ H R inv h
  refine thn (he.run ps st σ H _ inv h) ?_
  rintro v st1 ⟨x, H1, inv1, rel, a, b, xs, rfl, hq, q⟩
  cases rel
  cases b with
  | false =>
    obtain ⟨its, _, li, _⟩ := inv1.list (SqL.of (K := X.K) hq)
    exact wpAny_pyIter_list li.isList (pi_one (tk := st1.toks) inv1 _ (turn_list a _) ⟨_, Heap.get?_push_size _ rfl, rfl, rfl⟩ q)
  | true =>
    obtain ⟨its, _, tu, _⟩ := inv1.tuple (SqT.of (K := X.K) hq)
    have tu : st1.heap.IsTuple a its.toArray := tu
    exact wpAny_pyIter_tuple tu (pi_one (tk := st1.toks) inv1 _ (turn_tuple a _) ⟨_, Heap.get?_push_size _ rfl, rfl, rfl⟩ q)
theorem for_sq {K : PySem.W.Frag} {a : Addr} {b : Bool} {xs : List V} {g : TG} {tb : TS} {D : Ends} {σ : L2.St} {H : Hp} (Pv : Nat → L2.St → Hp → Prop) (h0 : Pv 0 σ H) (hl : ∀ i σ H, i ≤ xs.length → Pv i σ H → H a = some (sq b xs))
    (turn : ∀ i x σ H, xs[i]? = some x → Pv i σ H → g x σ H fun σ2 H2 => tb ⟨Pv (i + 1), D.rt, D.nx, Pv (i + 1)⟩ σ2 H2) (fin : ∀ σ H, Pv xs.length σ H → D.nx σ H) :
    tFor (fun _ H R => R (Itb b K a) H) g tb D σ H := by
  cases b with
  | false => exact for_list (K := K) (a := a) (xs := xs) Pv h0 (fun i σ H hi p => SqL.of (hl i σ H hi p)) turn fin
  | true => exact for_tup (K := K) (a := a) (xs := xs) Pv h0 (fun i σ H hi p => SqT.of (hl i σ H hi p)) turn fin
theorem take_more {α : Type} {l : List α} {i : Nat} {x : α} (h : l[i]? = some x) : l.take (i + 1) = l.take i ++ [x] := by
  rw [List.take_add_one, h]; rfl
/-- a comprehension's turns, from the new list at D on -/
def LcOk (J : It) (g : TG) (tt : TT) (te : TE) (vs : List Nat) (σ : L2.St) (H1 : Hp) (D : Addr) (Qd : Hp → Prop) : Prop :=
  ∃ W : Nat → Nat → Hp → Prop, (∃ m, W 0 m (upd H1 D (.lst []))) ∧ (∀ (i m : Nat) (h : Hp), W i m h →
    (J.stop i h ∧ Qd h) ∨ (J.go i h ∧ ∃ Nx : Hp → Prop, (∀ h', Nx h' → ∃ m', m' < m ∧ W (i + 1) m' h') ∧
      (∀ x h', J.yld i h x h' → g x (wipe σ vs) h' (fun s2 h2 => wipe s2 vs = wipe σ vs ∧
        tt s2 h2 (fun k h3 => if k = true then te s2 h3 (fun y h4 =>
          ∃ acc, h4 D = some (.lst acc) ∧ acc.length < sizeLine ∧ Nx (upd h4 D (.lst (acc ++ [y])))) else Nx h3)))))
/-- a comprehension over a list or a tuple whose element and test make new things alone -/
theorem lcP {α : Type} {K : PySem.W.Frag} {a : Addr} {b : Bool} {e : α → V} {as : List α} {j : Nat} {tt : TT} {te : TE} {vs : List Nat} {σ : L2.St} {H1 : Hp} {Qd : Addr → Hp → Prop} (t : α → Bool) (f : α → V)
    (hsrc : H1 a = some (sq b (as.map e))) (hlen : as.length ≤ 1000000) (hw : ∀ x, wipe ((wipe σ vs).set j (some x)) vs = wipe σ vs)
    (hs : ∀ (x : α) (H' : Hp), x ∈ as → Same H1 H' → ∀ R : Bool → Hp → Prop, (∀ H2, Same H' H2 → R (t x) H2) → tt ((wipe σ vs).set j (some (e x))) H' R)
    (he : ∀ (x : α) (H' : Hp), x ∈ as → t x = true → Same H1 H' → ∀ R : VK, (∀ H2, Same H' H2 → R (f x) H2) → te ((wipe σ vs).set j (some (e x))) H' R)
    (fin : ∀ D H', H1 D = none → Same H1 H' → H' D = some (.lst ((as.filter t).map f)) → Qd D H') :
    ∀ D, H1 D = none → LcOk (Itb b K a) (gName j) tt te vs σ H1 D (Qd D) := by
  intro D hD
  have key : ∀ i y H, (as.map e)[i]? = some y → (Same H1 H ∧ H D = some (.lst (((as.take i).filter t).map f))) → gName j y (wipe σ vs) H fun σ2 H2 => wipe σ2 vs = wipe σ vs ∧ tt σ2 H2 fun k H3 =>
      if k = true then te σ2 H3 fun z H4 => ∃ acc, H4 D = some (.lst acc) ∧ acc.length < sizeLine ∧ (Same H1 (upd H4 D (.lst (acc ++ [z]))) ∧ upd H4 D (.lst (acc ++ [z])) D = some (.lst (((as.take (i + 1)).filter t).map f))) else (Same H1 H3 ∧ H3 D = some (.lst (((as.take (i + 1)).filter t).map f))) := by
    intro i y H hy p
    obtain ⟨x, hx, rfl⟩ : ∃ x, as[i]? = some x ∧ y = e x := by
      rw [List.getElem?_map] at hy
      cases q : as[i]? with
      | none => rw [q] at hy; cases hy
      | some x => rw [q] at hy; exact ⟨x, rfl, (Option.some.inj hy).symm⟩
    have hm : x ∈ as := List.mem_of_getElem? hx
    have e := take_more hx
    refine ⟨hw _, hs x H hm p.1 _ fun H2 s2 => ?_⟩
    refine ite2 (fun c => ?y) (fun c => ?n)
    case y =>
      refine he x H2 hm c (p.1.trans s2) _ fun H3 s3 => ?_
      refine ⟨_, s3 _ _ (s2 _ _ p.2), ?_, Same.mut ((p.1.trans s2).trans s3) hD, ?_⟩
      · have h1 := List.length_filter_le t (as.take i)
        have h2 : (as.take i).length ≤ as.length := by rw [List.length_take]; omega
        rw [List.length_map]
        exact Nat.lt_of_le_of_lt (Nat.le_trans h1 (Nat.le_trans h2 hlen)) (by decide)
      · rw [upd_same, e, List.filter_append, List.map_append]
        simp [List.filter_cons, c]
    case n =>
      refine ⟨p.1.trans s2, ?_⟩
      rw [s2 _ _ p.2, e, List.filter_append, List.map_append]
      simp [List.filter_cons, c]
  have done : ∀ H, (Same H1 H ∧ H D = some (.lst (((as.take (as.map e).length).filter t).map f))) → Qd D H := by
    intro H p
    have h := p.2
    rw [List.length_map, List.take_length] at h
    exact fin D H hD p.1 h
  cases b with
  | false => exact lc_list (K := K) (a := a) (xs := as.map e) (fun i H => Same H1 H ∧ H D = some (.lst (((as.take i).filter t).map f))) ⟨Same.new hD, upd_same⟩ (fun i H _ p => SqL.of (p.1 _ _ hsrc)) key done
  | true => exact lc_tup (K := K) (a := a) (xs := as.map e) (fun i H => Same H1 H ∧ H D = some (.lst (((as.take i).filter t).map f))) ⟨Same.new hD, upd_same⟩ (fun i H _ p => SqT.of (p.1 _ _ hsrc)) key done
/-- the same over a range -/
theorem lcR {lo : Int} {n : Nat} {j : Nat} {tt : TT} {te : TE} {vs : List Nat} {σ : L2.St} {H1 : Hp} {Qd : Addr → Hp → Prop} (t : Nat → Bool) (f : Nat → V)
    (hlen : n ≤ 1000000) (hw : ∀ x, wipe ((wipe σ vs).set j (some x)) vs = wipe σ vs)
    (hs : ∀ (x : Nat) (H' : Hp), x < n → Same H1 H' → ∀ R : Bool → Hp → Prop, (∀ H2, Same H' H2 → R (t x) H2) → tt ((wipe σ vs).set j (some (.int (lo + x)))) H' R)
    (he : ∀ (x : Nat) (H' : Hp), x < n → t x = true → Same H1 H' → ∀ R : VK, (∀ H2, Same H' H2 → R (f x) H2) → te ((wipe σ vs).set j (some (.int (lo + x)))) H' R)
    (fin : ∀ D H', H1 D = none → Same H1 H' → H' D = some (.lst (((List.range n).filter t).map f)) → Qd D H') :
    ∀ D, H1 D = none → LcOk (Itr lo n) (gName j) tt te vs σ H1 D (Qd D) := by
  intro D hD
  refine lc_range (lo := lo) (n := n) (fun i H => Same H1 H ∧ H D = some (.lst (((List.range i).filter t).map f))) ⟨Same.new hD, upd_same⟩ (fun x H hx p => ?_) (fun H p => fin D H hD p.1 p.2)
  refine ⟨hw _, hs x H hx p.1 _ fun H2 s2 => ?_⟩
  refine ite2 (fun c => ?y) (fun c => ?n)
  case y =>
    refine he x H2 hx c (p.1.trans s2) _ fun H3 s3 => ?_
    refine ⟨_, s3 _ _ (s2 _ _ p.2), ?_, Same.mut ((p.1.trans s2).trans s3) hD, ?_⟩
    · have h1 := List.length_filter_le t (List.range x)
      rw [List.length_range] at h1
      rw [List.length_map]
      exact Nat.lt_of_le_of_lt (Nat.le_trans h1 (Nat.le_trans (Nat.le_of_lt hx) hlen)) (by decide)
    · rw [upd_same, List.range_succ, List.filter_append, List.map_append]
      simp [List.filter_cons, c]
  case n =>
    refine ⟨p.1.trans s2, ?_⟩
    rw [s2 _ _ p.2, List.range_succ, List.filter_append, List.map_append]
    simp [List.filter_cons, c]
theorem filter_yes {α : Type} (l : List α) : l.filter (fun _ => true) = l := List.filter_eq_self.mpr fun _ _ => rfl
theorem kb_lt {K : PySem.W.Frag} (k : Kd) : PySem.W.kitAny K (.type k.nm) [.type "list", .type "tuple"] = some (decide (k = .lst ∨ k = .tup)) := by
  refine kitAny_cons (kit_ty (kb_list k)) (fun h => kitAny_cons (b := decide (k = .tup)) (kit_ty (kb_tuple k)) (fun h2 => ?_) (fun h2 => ?_)) (fun h => ?_)
  · have h1 : ¬ k = .lst := of_decide_eq_false h
    have h3 : ¬ k = .tup := of_decide_eq_false h2
    rw [kitAny_nil, decide_eq_false (fun q => q.elim h1 h3)]
  · exact decide_eq_true (.inr (of_decide_eq_true h2))
  · exact decide_eq_true (.inl (of_decide_eq_true h))
/-- sum of a list or a tuple of ints -/
def rSumS (K : PySem.W.Frag) : List V → Hp → VK → Prop := fun vs H Q => ∃ (a : Addr) (b : Bool) (ns : List Int), vs = [V.ref a] ∧ H a = some (sq b (ns.map V.int)) ∧ Q (.int ns.sum) H
theorem cr_sumS {X : Cx} (hc : X.calm = true) : CallR X (.builtin "sum") (rSumS X.K) := by
  intro pins s σ H vs us Q I r h
  obtain ⟨a, b, ns, rfl, hs, q⟩ := h
  cases b with
  | false => exact cr_sum hc pins s σ H _ us Q I r ⟨a, ns, rfl, SqL.of hs, q⟩
  | true =>
    obtain ⟨its, rv, hl, _⟩ := I.tuple (SqT.of (K := X.K) hs)
    rw [Vals.ref1 r]
    have hi := rv.ints
    obtain ⟨xs, e⟩ := hi.allInts.items
    have hn : PySem.numsOf (intItems xs).toList = ns := by rw [← e]; exact hi.numsOf
    rw [PySem.nums_intItems] at hn
    have hl : s.heap.IsTuple a its.toArray := hl
    rw [e] at hl
    refine PySem.W.ktm_sumG (I.ok.hd hc) hl fun h' tk t' hk => ?_
    rw [preSum_eq, List.take_of_length_le (by simp), hn]
    exact ⟨.int _, H, I.kept hk, ⟨_, rfl⟩, q⟩
theorem tC_i {v : V} {σ : L2.St} {H : Hp} {Q : VK} (h : Q v H) : tC v σ H Q := h
theorem tNil_i {σ : L2.St} {H : Hp} {Q : List V → Hp → Prop} (h : Q [] H) : tNil σ H Q := h
theorem tCons_i {ta : TE} {tr : TA} {σ : L2.St} {H : Hp} {Q : List V → Hp → Prop} (h : ta σ H fun x H1 => tr σ H1 fun xs H2 => Q (x :: xs) H2) : tCons ta tr σ H Q := h
theorem sq_or {K : PySem.W.Frag} {H : Hp} {p : Addr} {b : Bool} {xs : List V} (h : H p = some (sq b xs)) : SqL K H p xs ∨ SqT K H p xs := by
  cases b with
  | false => exact .inl (SqL.of h)
  | true => exact .inr (SqT.of h)
theorem ix_sq {K : PySem.W.Frag} {H : Hp} {p : Addr} {b : Bool} {xs : List V} {i : Int} {v : V} {Q : VK} (h : H p = some (sq b xs)) (hi : atI xs i = some v) (q : Q v H) : rIx K (.ref p) (.int i) H Q := by
  cases b with
  | false => exact .inl ⟨p, xs, i, v, rfl, rfl, SqL.of h, hi, q⟩
  | true => exact .inr (.inl ⟨p, xs, i, v, rfl, rfl, SqT.of h, hi, q⟩)
theorem kn_sq {K : PySem.W.Frag} {H : Hp} {p : Addr} {b : Bool} {xs : List V} (h : H p = some (sq b xs)) : Kn K H (.ref p) (if b then .tup else .lst) := by
  cases b with
  | false => exact kn_lst h
  | true => exact kn_tup h
/-- a slice of a list or a tuple: a new one, or the tuple itself -/
def rSlS (K : PySem.W.Frag) : V → Option Int → Option Int → Hp → VK → Prop := fun x lo hi H Q => rSlL K x lo hi H Q ∨ rSlT K x lo hi H Q
theorem sl_sq {X : Cx} : SlR X (rSlS X.K) := SlR.or sl_list sl_tup
def rLenS (K : PySem.W.Frag) : List V → Hp → VK → Prop := fun xs H Q => ∃ p ys, xs = [.ref p] ∧ (SqL K H p ys ∨ SqT K H p ys) ∧ Q (.int ys.length) H
def rListOf (K : PySem.W.Frag) : List V → Hp → VK → Prop := fun xs H Q => ∃ p ys, xs = [.ref p] ∧ (SqL K H p ys ∨ SqT K H p ys) ∧ ∀ l, H l = none → Q (.ref l) (upd H l (.lst ys))
def rTupleOf (K : PySem.W.Frag) : List V → Hp → VK → Prop := fun xs H Q => ∃ p ys, xs = [.ref p] ∧ ((SqL K H p ys ∧ ∀ l, H l = none → Q (.ref l) (upd H l (.tup ys))) ∨ (SqT K H p ys ∧ Q (.ref p) H))
theorem _root_.L2.Same.fr {p : Addr} {H H1 H2 : Hp} (s : Same H H1) (n : H p = none) (f : Fr p H1 H2) : Same H H2 := fun b o h => f b o (ne_of_none h n) (s b o h)
theorem _root_.L2.Same.mk {H H1 : Hp} {p : Addr} {o : HO} (s : Same H H1) (n : H1 p = none) : Same H (upd H1 p o) := s.mut (s.free n)
theorem Fr.mk {a : Addr} {H H1 : Hp} {p : Addr} {o u : HO} (s : Fr a H H1) (ha : H1 a = some u) (n : H1 p = none) : Fr a H (upd H1 p o) := s.mut (s.free ha n)
theorem Fr.same {a : Addr} {H H1 H2 : Hp} (f : Fr a H H1) (s : Same H1 H2) : Fr a H H2 := fun b o n h => s b o (f b o n h)
/-- sums of beginnings -/
def SS (ns : List Int) (i : Nat) : Int := (ns.take i).sum
theorem SS_zero (ns : List Int) : SS ns 0 = 0 := rfl
theorem SS_succ {ns : List Int} {i : Nat} {z : Int} (h : ns[i]? = some z) : SS ns (i + 1) = SS ns i + z := sum_take h
theorem SS_all (ns : List Int) : SS ns ns.length = ns.sum := by unfold SS; rw [List.take_length]
theorem get_lt {α : Type} {l : List α} {i : Nat} {x : α} (h : l[i]? = some x) : i < l.length := (List.getElem?_eq_some_iff.mp h).1
theorem get_of {α : Type} {l : List α} {i : Nat} (h : i < l.length) : ∃ x, l[i]? = some x ∧ x ∈ l := ⟨l[i], List.getElem?_eq_getElem h, List.getElem_mem h⟩
theorem SS_mono {ns : List Int} (h : ∀ n ∈ ns, 0 ≤ n) : ∀ {i j : Nat}, i ≤ j → SS ns i ≤ SS ns j := by
  intro i j hij
  induction j with
  | zero => have : i = 0 := by omega
            subst this; exact Int.le_refl _
  | succ j ih =>
    by_cases e : i = j + 1
    · subst e; exact Int.le_refl _
    · have h1 := ih (by omega)
      by_cases hj : j < ns.length
      · obtain ⟨z, hz, hm⟩ := get_of hj
        have := h z hm
        rw [SS_succ hz]; omega
      · have e2 : SS ns (j + 1) = SS ns j := by
          unfold SS; rw [List.take_of_length_le (by omega), List.take_of_length_le (by omega)]
        rw [e2]; exact h1
theorem SS_nn {ns : List Int} (h : ∀ n ∈ ns, 0 ≤ n) (i : Nat) : 0 ≤ SS ns i := SS_mono h (Nat.zero_le i)
theorem cut_to {xs : List V} {k : Nat} (h1 : k ≤ xs.length) : cutV xs none (some (k : Int)) = xs.take k := by
  unfold cutV
  rw [HT.sIx_none, HT.sIx_nat, Nat.min_eq_left h1]; rfl
theorem cut_from {xs : List V} {k : Nat} (h1 : k ≤ xs.length) : cutV xs (some (k : Int)) none = xs.drop k := by
  unfold cutV
  rw [HT.sIx_none, HT.sIx_nat, Nat.min_eq_left h1, List.take_of_length_le]
  rw [List.length_drop]; exact Nat.le_refl _
theorem cut_last {xs : List V} (h : 0 < xs.length) : cutV xs none (some (-1)) = xs.dropLast := by
  unfold cutV
  have e : HT.sIx xs.length xs.length (some (-1)) = xs.length - 1 := by
    show (if (-1 : Int) < 0 then ((-1 : Int) + (xs.length : Int)).toNat else min (-1 : Int).toNat xs.length) = xs.length - 1
    rw [if_pos (by decide)]; omega
  rw [HT.sIx_none, e, List.dropLast_eq_take]; rfl
/-- an int at a place that lies in the list -/
theorem at_int {ns : List Int} {i : Int} {j : Nat} {z : Int} (e : i = (j : Int)) (h : ns[j]? = some z) : atI (ns.map V.int) i = some (.int z) :=
  at_of e (by rw [List.getElem?_map, h]; rfl)
theorem at_end {xs : List V} {v : V} (h : xs.getLast? = some v) : atI xs (-1) = some v := by
  obtain ⟨ys, rfl⟩ := List.getLast?_eq_some_iff.mp h
  exact atI_last ys v
/-! ### == of lists and tuples of ints -/
def dI (b : Bool) (ns : List Int) : PyData := if b then .tuple (ns.map PyData.int) else .list (ns.map PyData.int)
theorem dpAll_ints {K : PySem.W.Frag} {H : Hp} : ∀ ns : List Int, DpAll K H (ns.map V.int) (ns.map PyData.int)
  | [] => .nil
  | n :: r => .cons (.int n) (dpAll_ints r)
theorem dp_ints {K : PySem.W.Frag} {H : Hp} {p : Addr} {b : Bool} {ns : List Int} (h : H p = some (sq b (ns.map V.int))) : Dp K H (.ref p) (dI b ns) := by
  cases b with
  | false => exact .lst (SqL.of h) (dpAll_ints ns)
  | true => exact .tup (SqT.of h) (dpAll_ints ns)
theorem lay_ints : ∀ ns : List Int, PyData.canLayAll0 (ns.map PyData.int) = true
  | [] => rfl
  | n :: r => by
    show (PyData.canLay0 (.int n) && PyData.canLayAll0 (r.map PyData.int)) = true
    rw [lay_ints r]; rfl
theorem dep_ints : ∀ ns : List Int, PyData.depthAll (ns.map PyData.int) = 0
  | [] => rfl
  | n :: r => by
    show max (PyData.depth (.int n)) (PyData.depthAll (r.map PyData.int)) = 0
    rw [dep_ints r]; rfl
theorem sh_ints (b : Bool) (ns : List Int) : SeqAt.shaped (dI b ns) = true := by
  unfold SeqAt.shaped
  cases b with
  | false =>
    show (PyData.canLayAll0 (ns.map PyData.int) && decide (PyData.depthAll (ns.map PyData.int) + 1 ≤ 64)) = true
    rw [lay_ints, dep_ints]; rfl
  | true =>
    show (PyData.canLayAll0 (ns.map PyData.int) && decide (PyData.depthAll (ns.map PyData.int) + 1 ≤ 64)) = true
    rw [lay_ints, dep_ints]; rfl
theorem eqvAll_ints : ∀ ns ms : List Int, PyData.eqvAll (ns.map PyData.int) (ms.map PyData.int) = decide (ns = ms)
  | [], [] => rfl
  | [], _ :: _ => rfl
  | _ :: _, [] => rfl
  | n :: r, m :: t => by
    show ((n == m) && PyData.eqvAll (r.map PyData.int) (t.map PyData.int)) = _
    rw [eqvAll_ints r t]
    by_cases h1 : n = m
    · by_cases h2 : r = t
      · subst h1 h2; simp
      · simp [h1, h2]
    · simp [h1]
theorem eqv_ints (b c : Bool) (ns ms : List Int) : PyData.eqv (dI b ns) (dI c ms) = (decide (b = c) && decide (ns = ms)) := by
  cases b <;> cases c
  · exact (eqvAll_ints ns ms).trans (by simp)
  · rfl
  · rfl
  · exact (eqvAll_ints ns ms).trans (by simp)
theorem eqI {K : PySem.W.Frag} {H : Hp} {p q : Addr} {b c : Bool} {ns ms : List Int} {Q : VK} (hp : H p = some (sq b (ns.map V.int))) (hq : H q = some (sq c (ms.map V.int))) (k : Q (.bl (decide (b = c) && decide (ns = ms))) H) : rEqD K (.ref p) (.ref q) H Q :=
  ⟨_, _, dp_ints hp, dp_ints hq, sh_ints _ _, sh_ints _ _, by rw [eqv_ints]; exact k⟩
theorem neI {K : PySem.W.Frag} {H : Hp} {p q : Addr} {b c : Bool} {ns ms : List Int} {Q : VK} (hp : H p = some (sq b (ns.map V.int))) (hq : H q = some (sq c (ms.map V.int))) (k : Q (.bl (!(decide (b = c) && decide (ns = ms)))) H) : rNeD K (.ref p) (.ref q) H Q :=
  ⟨_, _, dp_ints hp, dp_ints hq, sh_ints _ _, sh_ints _ _, by rw [eqv_ints]; exact k⟩
theorem sqF {xs : List V} : (HO.lst xs) = sq false xs := rfl
theorem sqTr {xs : List V} : (HO.tup xs) = sq true xs := rfl
theorem ix_ok {n : Nat} {i : Int} (h0 : 0 ≤ i) (h1 : i < n) : ixN n i = some i.toNat := by
  unfold ixN; rw [if_pos h0, if_pos h1]
theorem sum_nn : ∀ {l : List Int}, (∀ n ∈ l, 0 ≤ n) → 0 ≤ l.sum
  | [], _ => Int.le_refl 0
  | a :: r, h => by
    have h1 := h a List.mem_cons_self
    have h2 := sum_nn (l := r) fun n hn => h n (List.mem_cons_of_mem _ hn)
    rw [List.sum_cons]; omega
theorem sum_ge : ∀ {l : List Int} {z : Int}, (∀ n ∈ l, 0 ≤ n) → z ∈ l → z ≤ l.sum
  | a :: r, z, h, hz => by
    have h1 := h a List.mem_cons_self
    have h3 : ∀ n ∈ r, 0 ≤ n := fun n hn => h n (List.mem_cons_of_mem _ hn)
    have h2 := sum_nn h3
    rw [List.sum_cons]
    rcases List.mem_cons.mp hz with rfl | hz
    · omega
    · have := sum_ge h3 hz; omega
theorem mem_set_of {α : Type} {l : List α} {j : Nat} {x u : α} (h : u ∈ l.set j x) : u = x ∨ u ∈ l := by
  rcases List.mem_or_eq_of_mem_set h with h | h
  · exact .inr h
  · exact .inl h
theorem ix_head {α : Type} {x : α} {xs : List α} : ixN (x :: xs).length 0 = some 0 := ix_ok (Int.le_refl 0) (by rw [List.length_cons]; omega)
theorem at_head {α : Type} {x : α} {xs : List α} : atI (x :: xs) 0 = some x := by
  unfold atI; rw [ix_head]; rfl
theorem map_true {α : Type} (l : List α) : l.map (fun _ => V.bl true) = (l.map fun _ => true).map V.bl := by rw [List.map_map]; rfl
theorem all_yes {α : Type} (l : List α) : ((l.map fun _ => true).all id) = true := by
  rw [List.all_eq_true]
  intro x hx
  obtain ⟨_, _, rfl⟩ := List.mem_map.mp hx
  rfl
/-! ### what is wished for more, is got of the same -/
def MoE (t : TE) : Prop := ∀ σ H (Q Q' : VK), (∀ v H1, Q v H1 → Q' v H1) → t σ H Q → t σ H Q'
def MoT (t : TT) : Prop := ∀ σ H (Q Q' : Bool → Hp → Prop), (∀ v H1, Q v H1 → Q' v H1) → t σ H Q → t σ H Q'
def MoA (t : TA) : Prop := ∀ σ H (Q Q' : List V → Hp → Prop), (∀ v H1, Q v H1 → Q' v H1) → t σ H Q → t σ H Q'
def MoR (r : R2) : Prop := ∀ x y H (Q Q' : VK), (∀ v H1, Q v H1 → Q' v H1) → r x y H Q → r x y H Q'
def MoC (r : List V → Hp → VK → Prop) : Prop := ∀ xs H (Q Q' : VK), (∀ v H1, Q v H1 → Q' v H1) → r xs H Q → r xs H Q'
theorem mo_var (i : Nat) : MoE (tVar i) := fun _ _ _ _ q ⟨v, e, h⟩ => ⟨v, e, q _ _ h⟩
theorem mo_c (v : V) : MoE (tC v) := fun _ _ _ _ q h => q _ _ h
theorem mo_op {r : R2} {ta tb : TE} (hr : MoR r) (ha : MoE ta) (hb : MoE tb) : MoE (tOp r ta tb) := fun σ H Q Q' q h =>
  ha σ H _ _ (fun x H1 h1 => hb σ H1 _ _ (fun y H2 h2 => hr x y H2 Q Q' q h2) h1) h
theorem mo_cb {r : List V → Hp → VK → Prop} {t : TA} (hr : MoC r) (ha : MoA t) : MoE (tCB r t) := fun σ H Q Q' q h =>
  ha σ H _ _ (fun xs H1 h1 => hr xs H1 Q Q' q h1) h
theorem mo_nil : MoA tNil := fun _ _ _ _ q h => q _ _ h
theorem mo_cons {t : TE} {r : TA} (ht : MoE t) (hr : MoA r) : MoA (tCons t r) := fun σ H Q Q' q h =>
  ht σ H _ _ (fun x H1 h1 => hr σ H1 _ _ (fun xs H2 h2 => q _ _ h2) h1) h
theorem mo_test {t : TE} (ht : MoE t) : MoT (tTest t) := fun σ H Q Q' q h => ht σ H _ _ (fun _ _ ⟨k, e, h1⟩ => ⟨k, e, q _ _ h1⟩) h
theorem mo_b {t : TE} (ht : MoE t) : MoT (tB t) := fun σ H Q Q' q h => ht σ H _ _ (fun _ _ ⟨k, e, h1⟩ => ⟨k, e, q _ _ h1⟩) h
theorem mo_not {t : TT} (ht : MoT t) : MoT (tNot t) := fun σ H Q Q' q h => ht σ H _ _ (fun _ _ h1 => q _ _ h1) h
theorem mo_and {t u : TT} (ht : MoT t) (hu : MoT u) : MoT (tAnd t u) := fun σ H Q Q' q h => ht σ H _ _ (fun k H1 h1 => by
  cases k with
  | true => exact hu σ H1 Q Q' q h1
  | false => exact q _ _ h1) h
theorem mo_or {t u : TT} (ht : MoT t) (hu : MoT u) : MoT (tOr t u) := fun σ H Q Q' q h => ht σ H _ _ (fun k H1 h1 => by
  cases k with
  | true => exact q _ _ h1
  | false => exact hu σ H1 Q Q' q h1) h
theorem mo_rI0 (g : Int → Int → V) : MoR (rI0 g) := fun _ _ _ _ _ q ⟨i, j, e1, e2, h⟩ => ⟨i, j, e1, e2, q _ _ h⟩
theorem mo_rI (C : Int → Int → Prop) (g : Int → Int → V) : MoR (rI C g) := fun _ _ _ _ _ q ⟨i, j, e1, e2, c, h⟩ => ⟨i, j, e1, e2, c, q _ _ h⟩
theorem mo_rEq : MoR rEq := fun _ _ _ _ _ q ⟨e, h⟩ => ⟨e, q _ _ h⟩
theorem mo_rNe : MoR rNe := fun _ _ _ _ _ q ⟨e, h⟩ => ⟨e, q _ _ h⟩
theorem mo_rIxL (K : PySem.W.Frag) : MoR (rIxL K) := fun _ _ _ _ _ q ⟨p, xs, i, v, e1, e2, e3, e4, h⟩ => ⟨p, xs, i, v, e1, e2, e3, e4, q _ _ h⟩
theorem mo_rIxT (K : PySem.W.Frag) : MoR (rIxT K) := fun _ _ _ _ _ q ⟨p, xs, i, v, e1, e2, e3, e4, h⟩ => ⟨p, xs, i, v, e1, e2, e3, e4, q _ _ h⟩
theorem mo_rIx (K : PySem.W.Frag) : MoR (rIx K) := fun _ _ _ _ _ q h => h.elim (fun h => .inl (mo_rIxL K _ _ _ _ _ q h)) (fun h => h.elim (fun h => .inr (.inl (mo_rIxT K _ _ _ _ _ q h)))
  (fun ⟨z, i, c, e1, e2, e3, e4, h⟩ => .inr (.inr ⟨z, i, c, e1, e2, e3, e4, q _ _ h⟩)))
theorem mo_len (K : PySem.W.Frag) : MoC (rLenS K) := fun _ _ _ _ q ⟨p, ys, e1, e2, h⟩ => ⟨p, ys, e1, e2, q _ _ h⟩
theorem mo_neD (K : PySem.W.Frag) : MoR (rNeD K) := fun _ _ _ _ _ q ⟨d, e, a1, a2, a3, a4, h⟩ => ⟨d, e, a1, a2, a3, a4, q _ _ h⟩
theorem mo_eqD (K : PySem.W.Frag) : MoR (rEqD K) := fun _ _ _ _ _ q ⟨d, e, a1, a2, a3, a4, h⟩ => ⟨d, e, a1, a2, a3, a4, q _ _ h⟩
theorem rg_ints {n : Int} : rgV 0 n = ((List.range n.toNat).map (fun i : Nat => (i : Int))).map V.int := by
  unfold rgV
  rw [Int.sub_zero, List.map_map]
  apply List.map_congr_left
  intro i _
  show V.int (0 + (i : Int)) = V.int i
  rw [Int.zero_add]
/-- the numbers below n -/
def below (n : Nat) : List Int := (List.range n).map (fun i : Nat => (i : Int))
theorem below_len (n : Nat) : (below n).length = n := by simp [below]
theorem below_get {n i : Nat} (h : i < n) : (below n)[i]? = some (i : Int) := by
  unfold below; rw [List.getElem?_map, List.getElem?_range h]; rfl
theorem while_mo {c : TT} {tb : TS} {D : Ends} {σ : L2.St} {H : Hp} (Pv : L2.St → Hp → Prop) (μ : L2.St → Hp → Nat) (h0 : Pv σ H)
    (turn : ∀ σ H, Pv σ H → c σ H (fun k H1 => if k = true then tb ⟨fun σ' H' => Pv σ' H' ∧ μ σ' H' < μ σ H, D.rt, D.nx, fun σ' H' => Pv σ' H' ∧ μ σ' H' < μ σ H⟩ σ H1 else D.nx σ H1))
    (mono : MoT c) : tWhile c tb D σ H := while_by Pv μ h0 turn mono
theorem mo_call {sp : Sp} {dvs : List V} {E : XK} {t : TA} (h : ∀ vs H (Q Q' : VK), (∀ v H1, Q v H1 → Q' v H1) → sp vs H Q E → sp vs H Q' E) (ha : MoA t) : MoE (tCall sp dvs E t) := fun σ H Q Q' q hh =>
  ha σ H _ _ (fun xs H1 h1 => h _ H1 Q Q' q h1) hh
theorem seq_ok {n : Nat} {i : Int} (h0 : 0 ≤ i) (h1 : i < n) : seqIndex? i n = some i.toNat := (ixN_seq (ix_ok h0 h1)).1
theorem below_mem {n : Nat} {x : Int} (h : x ∈ below n) : 0 ≤ x ∧ x < n := by
  unfold below at h
  obtain ⟨i, hi, rfl⟩ := List.mem_map.mp h
  have := List.mem_range.mp hi
  omega
theorem below_drop {n m : Nat} {x : Int} (h : x ∈ (below n).drop m) : (m : Int) ≤ x ∧ x < n := by
  obtain ⟨i, hi, e⟩ := List.mem_iff_getElem.mp h
  rw [List.getElem_drop] at e
  have hl : m + i < (below n).length := by
    rw [List.length_drop] at hi
    omega
  have e2 : (below n)[m + i]? = some x := by rw [List.getElem?_eq_getElem hl, e]
  rw [below_get (by rw [below_len] at hl; exact hl)] at e2
  have := Option.some.inj e2
  rw [below_len] at hl
  omega
theorem below_up (n : Nat) : (below n).Pairwise (· < ·) := by
  unfold below
  rw [List.pairwise_map]
  refine List.Pairwise.imp ?_ (List.pairwise_lt_range (n := n))
  intro a b h
  omega
def leT (ns ms : List Int) : Bool := Ob.lexAt (fun j => decide (ns.getD j 0 = ms.getD j 0)) (fun j => decide (ns.getD j 0 ≤ ms.getD j 0)) (decide (ns.length ≤ ms.length)) 0 (min ns.length ms.length)
theorem le_t {K : PySem.W.Frag} {H : Hp} {p q : Addr} {ns ms : List Int} {Q : VK} (hp : H p = some (.tup (ns.map V.int))) (hq : H q = some (.tup (ms.map V.int))) (k : Q (.bl (leT ns ms)) H) : rLeT K (.ref p) (.ref q) H Q :=
  ⟨p, q, ns, ms, rfl, rfl, SqT.of hp, SqT.of hq, k⟩
theorem erase_map {α β : Type} (f : α → β) : ∀ (l : List α) (i : Nat), (l.map f).eraseIdx i = (l.eraseIdx i).map f
  | [], _ => rfl
  | _ :: _, 0 => rfl
  | a :: r, i + 1 => congrArg (f a :: ·) (erase_map f r i)
theorem dp_of {i j : Int} (hj : 0 < j) (h0 : 0 ≤ i) (h : i < 2 ^ 200) : CDivP i j := by
  have hi : i.natAbs < 2 ^ 200 := by omega
  exact divp_ok hj (Nat.le_trans (PyProof.Rows.intBits_le hi) (by omega))
theorem int_item {ns : List Int} {i : Nat} {y : V} (h : (ns.map V.int)[i]? = some y) : ∃ z, ns[i]? = some z ∧ y = V.int z := by
  rw [List.getElem?_map] at h
  cases e : ns[i]? with
  | none => rw [e] at h; cases h
  | some z => rw [e] at h; exact ⟨z, rfl, (Option.some.inj h).symm⟩
theorem mo_lst {t : TA} (ha : MoA t) : MoE (tLst t) := fun σ H Q Q' q h => ha σ H _ _ (fun _ _ ⟨h1, h2⟩ => ⟨h1, fun p np => q _ _ (h2 p np)⟩) h
/-- a comprehension over a range whose element draws from the well at a -/
theorem lcRF {a : Addr} {lo : Int} {n : Nat} {j : Nat} {te : TE} {vs : List Nat} {σ : L2.St} {H1 : Hp} {Qd : Addr → Hp → Prop} {x0 y0 z0 : Int} (P : Nat → V → Prop)
    (hw0 : H1 a = some (wl x0 y0 z0)) (hlen : n ≤ 1000000) (hw : ∀ x, wipe ((wipe σ vs).set j (some x)) vs = wipe σ vs)
    (he : ∀ (k : Nat) (H' : Hp) (x y z : Int), k < n → H' a = some (wl x y z) → Fr a H1 H' → ∀ R : VK, (∀ v H2 x y z, P k v → H2 a = some (wl x y z) → Fr a H' H2 → R v H2) → te ((wipe σ vs).set j (some (.int (lo + k)))) H' R)
    (fin : ∀ D H' ys x y z, H1 D = none → D ≠ a → ys.length = n → (∀ (k : Nat) v, ys[k]? = some v → P k v) → H' a = some (wl x y z) → Fr a H1 H' → H' D = some (.lst ys) → Qd D H') :
    ∀ D, H1 D = none → LcOk (Itr lo n) (gName j) tYes te vs σ H1 D (Qd D) := by
  intro D hD
  have hDa : D ≠ a := Ne.symm (ne_nn hD hw0)
  refine lc_range (lo := lo) (n := n) (fun i H => ∃ ys x y z, ys.length = i ∧ (∀ (k : Nat) v, ys[k]? = some v → P k v) ∧ H a = some (wl x y z) ∧ Fr a H1 H ∧ H D = some (.lst ys))
    ⟨[], x0, y0, z0, rfl, (fun k v h => by simp at h), by rw [upd_ne (Ne.symm hDa)]; exact hw0, (Fr.refl a H1).mut hD, upd_same⟩ ?_ ?_
  · rintro k H hk ⟨ys, x, y, z, hl, hP, hwa, f, hd⟩
    refine ⟨hw _, he k H x y z hk hwa f _ fun v H2 x2 y2 z2 pv hw2 f2 => ?_⟩
    refine ⟨ys, f2.g hDa hd, ?_, ys ++ [v], x2, y2, z2, by rw [List.length_append, hl]; rfl, fun k' v' h' => ?_, by rw [upd_ne (Ne.symm hDa)]; exact hw2, (f.trans f2).mut hD, upd_same⟩
    · rw [hl]; exact Nat.lt_of_le_of_lt (Nat.le_trans (Nat.le_of_lt hk) hlen) (by decide)
    · by_cases c : k' < ys.length
      · rw [List.getElem?_append_left c] at h'
        exact hP k' v' h'
      · have c2 : k' < ys.length + 1 := by have := get_lt h'; rw [List.length_append] at this; exact this
        have e : k' = ys.length := by omega
        subst e
        rw [List.getElem?_append_right (Nat.le_refl _), Nat.sub_self] at h'
        cases h'
        rw [hl]; exact pv
  · rintro H ⟨ys, x, y, z, hl, hP, hwa, f, hd⟩
    exact fin D H ys x y z hD hDa hl hP hwa f hd
/-- a comprehension over zip of two lists of one length, whose element makes new things alone -/
theorem lcZ {K : PySem.W.Frag} {a b : Addr} {xs ys : List V} {i1 i2 : Nat} {te : TE} {vs : List Nat} {σ : L2.St} {H1 : Hp} {Qd : Addr → Hp → Prop} (f : V → V → V)
    (ha : H1 a = some (.lst xs)) (hb : H1 b = some (.lst ys)) (hl : xs.length = ys.length) (hlen : xs.length ≤ 1000000) (hw : ∀ x y, wipe (((wipe σ vs).set i1 (some x)).set i2 (some y)) vs = wipe σ vs)
    (he : ∀ (k : Nat) (x y : V) (H' : Hp), xs[k]? = some x → ys[k]? = some y → Same H1 H' → ∀ R : VK, (∀ H2, Same H' H2 → R (f x y) H2) → te (((wipe σ vs).set i1 (some x)).set i2 (some y)) H' R)
    (fin : ∀ D H', H1 D = none → Same H1 H' → H' D = some (.lst ((xs.zip ys).map fun p => f p.1 p.2)) → Qd D H') :
    ∀ D, H1 D = none → LcOk (Itz K a b) (gTup K 2 (gCons (gName i1) (gCons (gName i2) gNil))) tYes te vs σ H1 D (Qd D) := by
  intro D hD
  refine ⟨fun i m H => m = xs.length - i ∧ i ≤ xs.length ∧ Same H1 H ∧ H D = some (.lst (((xs.zip ys).take i).map fun p => f p.1 p.2)), ⟨_, rfl, Nat.zero_le _, Same.new hD, upd_same⟩, ?_⟩
  rintro i m H ⟨rfl, hi, s, hd⟩
  have ha' : SqL K H a xs := SqL.of (s.g ha)
  have hb' : SqL K H b ys := SqL.of (s.g hb)
  by_cases c : i < xs.length
  · obtain ⟨x, hx, _⟩ := get_of c
    obtain ⟨y, hy, _⟩ := get_of (l := ys) (i := i) (by omega)
    refine .inr ⟨⟨xs, ys, x, y, ha', hb', hx, hy⟩, fun H => Same H1 H ∧ H D = some (.lst (((xs.zip ys).take (i + 1)).map fun p => f p.1 p.2)), fun H' p => ⟨xs.length - (i + 1), by omega, rfl, c, p⟩, ?_⟩
    rintro v H' ⟨T, x', y', rfl, nT, rfl, h1, h2⟩
    have e1 := h1 xs ha'
    have e2 := h2 ys hb'
    rw [hx] at e1
    rw [hy] at e2
    cases e1
    cases e2
    refine ⟨T, _, rfl, SqT.of upd_same, rfl, _, _, rfl, _, _, rfl, rfl, hw _ _, ?_⟩
    refine he i x y _ hx hy (s.mk nT) _ fun H2 s2 => ?_
    have hd2 : H2 D = some (.lst (((xs.zip ys).take i).map fun p => f p.1 p.2)) := s2.g (((Same.refl H).mk nT).g hd)
    refine ⟨_, hd2, ?_, ((s.mk nT).trans s2).mut hD, ?_⟩
    · rw [List.length_map, List.length_take]; exact Nat.lt_of_le_of_lt (show min i (xs.zip ys).length ≤ 1000000 by omega) (by decide)
    · have hz : (xs.zip ys)[i]? = some (x, y) := by rw [List.getElem?_zip_eq_some]; exact ⟨hx, hy⟩
      rw [upd_same, take_more hz, List.map_append]; rfl
  · have e : i = xs.length := by omega
    subst e
    refine .inl ⟨⟨xs, ys, ha', hb', .inl (Nat.le_refl _)⟩, ?_⟩
    have ez : (xs.zip ys).take xs.length = xs.zip ys := List.take_of_length_le (by rw [List.length_zip]; omega)
    rw [ez] at hd
    exact fin D H hD s hd
theorem eraseS {α : Type} {l : List α} {i : Nat} {x : α} (h : l[i]? = some x) : l = l.take i ++ x :: l.drop (i + 1) ∧ l.eraseIdx i = l.take i ++ l.drop (i + 1) := by
  obtain ⟨hi, e⟩ := List.getElem?_eq_some_iff.mp h
  refine ⟨?_, List.eraseIdx_eq_take_drop_succ ..⟩
  rw [← e, List.getElem_cons_drop, List.take_append_drop]

def top (i : Nat) : Stmt := PySem.Challenge.pw_splitseed_k54_rows_laid_and_undone.main.body.getD i (.Pass ⟨0, 0, 0, 0⟩)
abbrev s_NoOrder__init_ : Stmt := inClass (top 2) 0
abbrev s_is_whole : Stmt := top 4
abbrev s_is_within : Stmt := top 5
abbrev s_is_row : Stmt := top 8
abbrev s_is_order : Stmt := top 9
abbrev s_need_order : Stmt := top 10
abbrev s_laid : Stmt := top 11
abbrev s_turned_order : Stmt := top 12
abbrev s_l_cell : Stmt := top 14
abbrev s_l_well : Stmt := top 15
abbrev s_l_draw : Stmt := top 16
abbrev s_l_order : Stmt := top 17
abbrev s_l_many : Stmt := top 18
abbrev s_l_told : Stmt := top 19
abbrev s_l_things : Stmt := top 20
abbrev s_l_laid : Stmt := top 21
abbrev s_l_alike : Stmt := top 22
abbrev s_law : Stmt := top 23
theorem sc_is_whole : FnScope ["thing"] ["thing"] (defScope s_is_whole) := ⟨rfl, rfl, rfl, by decide +kernel, rfl, by decide +kernel, by decide +kernel⟩
theorem sc_is_within : FnScope ["thing", "low", "high"] ["thing", "low", "high"] (defScope s_is_within) := ⟨rfl, rfl, rfl, by decide +kernel, rfl, by decide +kernel, by decide +kernel⟩
theorem sc_is_row : FnScope ["thing"] ["thing"] (defScope s_is_row) := ⟨rfl, rfl, rfl, by decide +kernel, rfl, by decide +kernel, by decide +kernel⟩
theorem sc_is_order : FnScope ["thing", "seen", "place"] ["thing"] (defScope s_is_order) := ⟨rfl, rfl, rfl, by decide +kernel, rfl, by decide +kernel, by decide +kernel⟩
theorem sc_need_order : FnScope ["thing"] ["thing"] (defScope s_need_order) := ⟨rfl, rfl, rfl, by decide +kernel, rfl, by decide +kernel, by decide +kernel⟩
theorem sc_laid : FnScope ["row", "order", "place"] ["row", "order"] (defScope s_laid) := ⟨rfl, rfl, rfl, by decide +kernel, rfl, by decide +kernel, by decide +kernel⟩
theorem sc_turned_order : FnScope ["order", "found", "at", "place"] ["order"] (defScope s_turned_order) := ⟨rfl, rfl, rfl, by decide +kernel, rfl, by decide +kernel, by decide +kernel⟩
theorem sc_l_cell : FnScope ["_law_script", "_law_k"] ["_law_script", "_law_k"] (defScope s_l_cell) := ⟨rfl, rfl, rfl, by decide +kernel, rfl, by decide +kernel, by decide +kernel⟩
theorem sc_l_well : FnScope ["_law_cell_here"] ["_law_cell_here"] (defScope s_l_well) := ⟨rfl, rfl, rfl, by decide +kernel, rfl, by decide +kernel, by decide +kernel⟩
theorem sc_l_draw : FnScope ["_law_well_here", "_law_many_here", "_law_number"] ["_law_well_here", "_law_many_here"] (defScope s_l_draw) := ⟨rfl, rfl, rfl, by decide +kernel, rfl, by decide +kernel, by decide +kernel⟩
theorem sc_l_order : FnScope ["_law_well_here", "_law_many_here", "_law_left", "_law_found"] ["_law_well_here", "_law_many_here"] (defScope s_l_order) := ⟨rfl, rfl, rfl, by decide +kernel, rfl, by decide +kernel, by decide +kernel⟩
theorem sc_l_many : FnScope ["_law_well_here", "_law_most"] ["_law_well_here", "_law_most"] (defScope s_l_many) := ⟨rfl, rfl, rfl, by decide +kernel, rfl, by decide +kernel, by decide +kernel⟩
theorem sc_l_told : FnScope ["_law_found", "_law_due", "_law_place"] ["_law_found", "_law_due"] (defScope s_l_told) := ⟨rfl, rfl, rfl, by decide +kernel, rfl, by decide +kernel, by decide +kernel⟩
theorem sc_l_things : FnScope ["_law_well_here", "_law_many_here", "_law_some", "_law_k"] ["_law_well_here", "_law_many_here"] (defScope s_l_things) := ⟨rfl, rfl, rfl, by decide +kernel, rfl, by decide +kernel, by decide +kernel⟩
theorem sc_l_laid : FnScope ["_law_row", "_law_order_here", "_law_found", "_law_place"] ["_law_row", "_law_order_here"] (defScope s_l_laid) := ⟨rfl, rfl, rfl, by decide +kernel, rfl, by decide +kernel, by decide +kernel⟩
theorem sc_l_alike : FnScope ["_law_found", "_law_due", "_law_one", "_law_other"] ["_law_found", "_law_due"] (defScope s_l_alike) := ⟨rfl, rfl, rfl, by decide +kernel, rfl, by decide +kernel, by decide +kernel⟩
theorem sc_law : FnScope ["_law_script", "_law_k", "_law_well_here", "_law_many_here", "_law_row", "_law_order_here", "_law_handed", "_law_found", "_law_undone", "_law_other", "_law_both", "_law_place"] ["_law_script"] (defScope s_law) := ⟨rfl, rfl, rfl, by decide +kernel, rfl, by decide +kernel, by decide +kernel⟩
structure Txt (K : PySem.W.Frag) (mg : Str → Option Value) where
  f_is_whole : Addr
  d_is_whole : FuncData
  g_is_whole : mg "is_whole" = some (.ref f_is_whole)
  k_is_whole : PySem.W.keepIn K (.ref f_is_whole) = true
  F_is_whole : Fun K "is_whole" "is_whole" s_is_whole f_is_whole d_is_whole
  b_is_whole : Binds K d_is_whole ["thing"] []
  f_is_within : Addr
  d_is_within : FuncData
  g_is_within : mg "is_within" = some (.ref f_is_within)
  k_is_within : PySem.W.keepIn K (.ref f_is_within) = true
  F_is_within : Fun K "is_within" "is_within" s_is_within f_is_within d_is_within
  b_is_within : Binds K d_is_within ["thing", "low", "high"] []
  f_is_row : Addr
  d_is_row : FuncData
  g_is_row : mg "is_row" = some (.ref f_is_row)
  k_is_row : PySem.W.keepIn K (.ref f_is_row) = true
  F_is_row : Fun K "is_row" "is_row" s_is_row f_is_row d_is_row
  b_is_row : Binds K d_is_row ["thing"] []
  f_is_order : Addr
  d_is_order : FuncData
  g_is_order : mg "is_order" = some (.ref f_is_order)
  k_is_order : PySem.W.keepIn K (.ref f_is_order) = true
  F_is_order : Fun K "is_order" "is_order" s_is_order f_is_order d_is_order
  b_is_order : Binds K d_is_order ["thing"] []
  f_need_order : Addr
  d_need_order : FuncData
  g_need_order : mg "need_order" = some (.ref f_need_order)
  k_need_order : PySem.W.keepIn K (.ref f_need_order) = true
  F_need_order : Fun K "need_order" "need_order" s_need_order f_need_order d_need_order
  b_need_order : Binds K d_need_order ["thing"] []
  f_laid : Addr
  d_laid : FuncData
  g_laid : mg "laid" = some (.ref f_laid)
  k_laid : PySem.W.keepIn K (.ref f_laid) = true
  F_laid : Fun K "laid" "laid" s_laid f_laid d_laid
  b_laid : Binds K d_laid ["row", "order"] []
  f_turned_order : Addr
  d_turned_order : FuncData
  g_turned_order : mg "turned_order" = some (.ref f_turned_order)
  k_turned_order : PySem.W.keepIn K (.ref f_turned_order) = true
  F_turned_order : Fun K "turned_order" "turned_order" s_turned_order f_turned_order d_turned_order
  b_turned_order : Binds K d_turned_order ["order"] []
  f_l_cell : Addr
  d_l_cell : FuncData
  g_l_cell : mg "_law_cell" = some (.ref f_l_cell)
  k_l_cell : PySem.W.keepIn K (.ref f_l_cell) = true
  F_l_cell : Fun K "_law_cell" "_law_cell" s_l_cell f_l_cell d_l_cell
  b_l_cell : Binds K d_l_cell ["_law_script", "_law_k"] []
  f_l_well : Addr
  d_l_well : FuncData
  g_l_well : mg "_law_well" = some (.ref f_l_well)
  k_l_well : PySem.W.keepIn K (.ref f_l_well) = true
  F_l_well : Fun K "_law_well" "_law_well" s_l_well f_l_well d_l_well
  b_l_well : Binds K d_l_well ["_law_cell_here"] []
  f_l_draw : Addr
  d_l_draw : FuncData
  g_l_draw : mg "_law_draw" = some (.ref f_l_draw)
  k_l_draw : PySem.W.keepIn K (.ref f_l_draw) = true
  F_l_draw : Fun K "_law_draw" "_law_draw" s_l_draw f_l_draw d_l_draw
  b_l_draw : Binds K d_l_draw ["_law_well_here", "_law_many_here"] []
  f_l_order : Addr
  d_l_order : FuncData
  g_l_order : mg "_law_order" = some (.ref f_l_order)
  k_l_order : PySem.W.keepIn K (.ref f_l_order) = true
  F_l_order : Fun K "_law_order" "_law_order" s_l_order f_l_order d_l_order
  b_l_order : Binds K d_l_order ["_law_well_here", "_law_many_here"] []
  f_l_many : Addr
  d_l_many : FuncData
  g_l_many : mg "_law_many" = some (.ref f_l_many)
  k_l_many : PySem.W.keepIn K (.ref f_l_many) = true
  F_l_many : Fun K "_law_many" "_law_many" s_l_many f_l_many d_l_many
  b_l_many : Binds K d_l_many ["_law_well_here", "_law_most"] []
  f_l_told : Addr
  d_l_told : FuncData
  g_l_told : mg "_law_told" = some (.ref f_l_told)
  k_l_told : PySem.W.keepIn K (.ref f_l_told) = true
  F_l_told : Fun K "_law_told" "_law_told" s_l_told f_l_told d_l_told
  b_l_told : Binds K d_l_told ["_law_found", "_law_due"] []
  f_l_things : Addr
  d_l_things : FuncData
  g_l_things : mg "_law_things" = some (.ref f_l_things)
  k_l_things : PySem.W.keepIn K (.ref f_l_things) = true
  F_l_things : Fun K "_law_things" "_law_things" s_l_things f_l_things d_l_things
  b_l_things : Binds K d_l_things ["_law_well_here", "_law_many_here"] []
  f_l_laid : Addr
  d_l_laid : FuncData
  g_l_laid : mg "_law_laid" = some (.ref f_l_laid)
  k_l_laid : PySem.W.keepIn K (.ref f_l_laid) = true
  F_l_laid : Fun K "_law_laid" "_law_laid" s_l_laid f_l_laid d_l_laid
  b_l_laid : Binds K d_l_laid ["_law_row", "_law_order_here"] []
  f_l_alike : Addr
  d_l_alike : FuncData
  g_l_alike : mg "_law_alike" = some (.ref f_l_alike)
  k_l_alike : PySem.W.keepIn K (.ref f_l_alike) = true
  F_l_alike : Fun K "_law_alike" "_law_alike" s_l_alike f_l_alike d_l_alike
  b_l_alike : Binds K d_l_alike ["_law_found", "_law_due"] []
  f_law : Addr
  d_law : FuncData
  g_law : mg "law" = some (.ref f_law)
  k_law : PySem.W.keepIn K (.ref f_law) = true
  F_law : Fun K "law" "law" s_law f_law d_law
  b_law : Binds K d_law ["_law_script"] []
  n_len : mg "len" = none
  n_max : mg "max" = none
  n_min : mg "min" = none
  n_all : mg "all" = none
  n_isinstance : mg "isinstance" = none
  n_int : mg "int" = none
  n_bool : mg "bool" = none
  n_list : mg "list" = none
  n_tuple : mg "tuple" = none
  n_range : mg "range" = none
  n_enumerate : mg "enumerate" = none
  n_zip : mg "zip" = none
  c_MOST_LAID : ∃ t, mg "MOST_LAID" = some (.int (60) t)
local macro_rules | `(tactic| tm_at "hp") => `(tactic| first
  | assumption
  | exact upd_same
  | exact Eq.trans (upd_ne (by tm_at "ne")) (by tm_at "hp")
  | exact Same.g (by assumption) (by tm_at "hp")
  | exact Fr.g (by assumption) (by tm_at "ne") (by tm_at "hp"))
local macro_rules | `(tactic| tm_at "ne") => `(tactic| first
  | assumption
  | exact Ne.symm (by assumption)
  | exact ne_nn (by assumption) (by tm_at "hp")
  | exact Ne.symm (ne_nn (by assumption) (by tm_at "hp")))
/-! one step of a reading that asks for nothing new -/
set_option hygiene false in
local macro_rules | `(tactic| tm_at "g1") => `(tactic| first
  | with_reducible refine tC_i ?_
  | with_reducible refine tCons_i ?_
  | with_reducible refine tNil_i ?_
  | refine ⟨_, rfl, ?_⟩
  | refine ⟨_, _, rfl, rfl, ?_⟩
  | refine ⟨rfl, ?_⟩
  | refine ⟨Or.inl ⟨by omega, by omega⟩, ?_⟩
  | refine ⟨Or.inr ⟨by omega, by omega⟩, ?_⟩
  | refine ⟨(by decide : (0 : Int) < _), ?_⟩
  | refine ⟨(⟨by decide, by decide +kernel⟩ : CDivW _ _), ?_⟩
  | refine ⟨(⟨by decide, by decide, by decide⟩ : CPow _ _), ?_⟩
  | refine ⟨Or.inl ⟨rfl, _, SqL.of (by tm_at "hp")⟩, ?_⟩
  | refine ⟨_, _, _, _, rfl, rfl, SqL.of (by tm_at "hp"), (by tm_at "at"), ?_⟩
  | refine ⟨_, _, _, _, rfl, rfl, (by tm_at "hp"), (by tm_at "ix"), ?_⟩
  | refine ⟨_, _, rfl, Or.inl (SqL.of (by tm_at "hp")), ?_⟩
  | refine ⟨_, _, rfl, Or.inr (SqT.of (by tm_at "hp")), ?_⟩
  | refine ⟨_, _, rfl, sq_or (by tm_at "hp"), ?_⟩
  | refine ⟨_, _, rfl, ?_⟩
  | ((with_reducible show rIx _ (V.ref _) (V.int _) _ _); refine ix_sq (by tm_at "hp") (by tm_at "at") ?_))
local macro_rules | `(tactic| tm_at "at") => `(tactic| first
  | with_reducible exact at_head
  | ((with_reducible show atI (_ :: _) _ = _); rfl)
  | ((with_reducible show atI (List.set _ _ _) _ = _); rfl))
local macro_rules | `(tactic| tm_at "ix") => `(tactic| first
  | with_reducible exact ix_head
  | ((with_reducible show ixN (List.length (_ :: _)) _ = _); rfl)
  | ((with_reducible show ixN (List.length (List.set _ _ _)) _ = _); rfl))
local macro_rules | `(tactic| tm_at "go") => `(tactic| repeat tm_at "g1")
/-! a test that the facts decide -/
local macro_rules | `(tactic| tm_at "bd") => `(tactic| first
  | rfl
  | assumption
  | (exact decide_eq_true (by omega))
  | (exact decide_eq_false (by omega))
  | (simp only [decide_eq_true_eq, decide_eq_false_iff_not, Bool.not_eq_true', Bool.not_eq_false', Bool.not_eq_eq_eq_not, Bool.not_true, Bool.not_false, V.int.injEq, List.length_map, reduceCtorEq]; omega))
local macro_rules | `(tactic| tm_at "if") => `(tactic| first
  | refine ifT (by tm_at "bd") ?_
  | refine ifF (by tm_at "bd") ?_)
local macro_rules | `(tactic| tm_at "mono") => `(tactic| repeat' first
  | exact mo_var _ | exact mo_c _ | exact mo_nil | exact mo_rI0 _ | exact mo_rI _ _ | exact mo_rEq | exact mo_rNe | exact mo_rIxL _ | exact mo_rIxT _ | exact mo_rIx _ | exact mo_len _ | exact mo_neD _ | exact mo_eqD _
  | with_reducible refine mo_lst ?_ | with_reducible refine mo_op ?_ ?_ ?_ | with_reducible refine mo_cb ?_ ?_ | with_reducible refine mo_cons ?_ ?_ | with_reducible refine mo_test ?_ | with_reducible refine mo_b ?_ | with_reducible refine mo_not ?_ | with_reducible refine mo_and ?_ ?_ | with_reducible refine mo_or ?_ ?_)
section
variable {P : Program} {w : World} {K : PySem.W.Frag} {mg : Str → Option Value} {base : Heap}

/-! ### enumerate(x), x a list or a tuple -/
def Ieb (b : Bool) (a : Addr) : It :=
  ⟨fun i H => ∃ (xs : List V) (x : V), H a = some (sq b xs) ∧ xs[i]? = some x,
   fun i H v H' => ∃ T x, v = .ref T ∧ H T = none ∧ H' = upd H T (.tup [.int (i : Nat), x]) ∧ (∀ xs, H a = some (sq b xs) → xs[i]? = some x),
   fun i H => ∃ xs : List V, H a = some (sq b xs) ∧ xs.length = i⟩
theorem turn_eL {P : Program} {w : World} {K : PySem.W.Frag} {elts : List Expr} {kk : Nat} {tpos : Pos} (a e it : Addr) :
    Turn P w K (.Tuple elts kk tpos) (Ieb false a) [e, it] e (fun i h => (∃ old, IsEnum h e it ((i : Nat) : Int) old) ∧ h.IsListIter it a i ∧ e ≠ it) := by
  have T := turn_enum (P := P) (w := w) (K := K) (elts := elts) (kk := kk) (tpos := tpos) a e it
  refine ⟨T.mem, T.obj, T.keep, ?_, ?_, T.self⟩
  · intro X hP hw hK hc i pins st σ H E inv hf tn ⟨xs, x, hq, hx⟩
    refine thn (T.item X hP hw hK hc i pins st σ H E inv hf tn ⟨xs, x, SqL.of hq, hx⟩) ?_
    rintro r s1 ⟨u, e1, h⟩
    refine ⟨u, e1, thn h ?_⟩
    rintro _ s2 ⟨y, H', i2, ry, ⟨T, z, e2, e3, e4, e5⟩, t2, t3⟩
    exact ⟨y, H', i2, ry, ⟨T, z, e2, e3, e4, fun xs hx => e5 xs (SqL.of hx)⟩, t2, t3⟩
  · intro X hP hw hK hc i pins st σ H E inv hf tn ⟨xs, hq, hx⟩
    exact T.done X hP hw hK hc i pins st σ H E inv hf tn ⟨xs, SqL.of hq, Nat.le_of_eq hx⟩
theorem turn_eT {P : Program} {w : World} {K : PySem.W.Frag} {elts : List Expr} {kk : Nat} {tpos : Pos} (a e it : Addr) :
    Turn P w K (.Tuple elts kk tpos) (Ieb true a) [e, it] e (fun i h => (∃ old, IsEnum h e it ((i : Nat) : Int) old) ∧ h.IsTupleIter it a i ∧ e ≠ it) where
  mem := by simp
  obj := by
    rintro i h ⟨⟨old, he⟩, ⟨o, ho, hc, hd⟩, _⟩ b hb
    have hb : b = e ∨ b = it := by simpa using hb
    rcases hb with rfl | rfl
    · exact ⟨_, he, fun v q => nomatch q⟩
    · exact ⟨o, ho, fun v q => by rw [hd] at q; cases q⟩
  keep := by
    rintro i h h' ⟨⟨old, he⟩, hi, hne⟩ k
    exact ⟨⟨old, k e (by simp) _ he⟩, hi.at fun o q => k it (by simp) o q, hne⟩
  item := by
    intro X hP hw hK hc i pins st σ H E inv hf ⟨⟨old, he⟩, hit, hne⟩ ⟨xs, x, hq, hx⟩
    subst hP hw hK
    obtain ⟨its, rv, p, _⟩ := inv.tuple (SqT.of (K := X.K) hq)
    have p : st.heap.IsTuple a its.toArray := p
    obtain ⟨u, hu, ru⟩ := rv.get hx
    have hea : e ≠ a := by
      intro q
      obtain ⟨o, ho, hcl, _⟩ := id p
      have he' : st.heap.get? e = some _ := he
      rw [q, ho] at he'
      cases he'
      exact absurd (Value.type.inj hcl) (by decide)
    have hel : e < st.heap.objs.size := Heap.lt_size he
    have hil : it < st.heap.objs.size := by obtain ⟨_, q, _⟩ := hit; exact Heap.lt_size q
    have hai : a ≠ it := by
      intro q
      obtain ⟨o, ho, hcl, _⟩ := id p
      obtain ⟨o2, ho2, hcl2, _⟩ := id hit
      rw [q, ho2] at ho
      cases ho
      rw [hcl] at hcl2
      exact absurd (Value.type.inj hcl2) (by decide)
    have D := Draws.tuple (prog := X.prog) (w := X.w) (A := X.A.in1) (inv.ok.hd hc) it a hai its.toArray
    have hlt : i < its.toArray.size := by
      rw [List.size_toArray]
      exact (List.getElem?_eq_some_iff.mp hu).1
    refine wpAny_pyNext_enum_itemD D he ⟨hit, p⟩ hlt hne (by simp [hne, hea]) fun z h' tk hz ho' hst' hT hsz hk => ?_
    have ez : z = u := by
      have hz : its.toArray[i]? = some z := hz
      rw [List.getElem?_toArray, hu] at hz
      exact (Option.some.inj hz).symm
    subst ez
    refine ⟨_, rfl, wpAny_letOwnedTupleGo_enum (s := { st with heap := h', toks := tk + 1 }) ho' fun h'' he' sb => ?_⟩
    have hT2 : h''.get? st.heap.objs.size = some { cls := .type "tuple", data := .seq #[.int i tk, z] } := (sb.2 _ (Nat.ne_of_gt hel)).trans hT
    have new : ObjOk X.prog X.w (upd H st.heap.objs.size (.tup [.int (i : Nat), x])) h'' st.heap.objs.size (.tup [.int (i : Nat), x]) := ⟨Nat.le_of_ble_eq_true rfl, [.int i tk, z], .cons ⟨_, rfl⟩ (.cons ru .nil), ⟨_, hT2, rfl, _, rfl⟩⟩
    have I1 : Inv X pins σ (upd H st.heap.objs.size (.tup [.int (i : Nat), x])) { st with heap := h'', toks := tk + 1 } :=
      inv.turnedNew (ch := [e, it]) (fun b ob hb q => (sb.2 b (fun z => hb (by simp [z]))).trans (hk b ob (fun z => hb (by simp [z])) (fun z => hb (by simp [z])) q)) hf (Nat.le_refl _) new
    refine ⟨.ref st.heap.objs.size, _, I1, rfl, ⟨_, x, rfl, inv.hok.fresh (Nat.le_refl _), rfl, fun ys hy => ?_⟩, ⟨⟨z, ?_⟩, hst'.1.at fun o q => (sb.2 it (Ne.symm hne)).trans q, hne⟩, fun b hb => ?_⟩
    · have : (HO.tup ys) = HO.tup xs := Option.some.inj (hy.symm.trans hq)
      cases this; exact hx
    · have e1 : ((i + 1 : Nat) : Int) = (i : Int) + 1 := by omega
      rw [e1]; exact he'
    · have hb' : b < st.heap.objs.size := by
        have hb : b = e ∨ b = it := by simpa using hb
        rcases hb with rfl | rfl
        · exact hel
        · exact hil
      rw [upd_ne (Nat.ne_of_lt hb')]
      exact (hf b hb).1
  done := by
    intro X hP hw hK hc i pins st σ H E inv hf ⟨⟨old, he⟩, hit, hne⟩ ⟨xs, hq, hx⟩
    subst hP hw hK
    obtain ⟨its, rv, p, _⟩ := inv.tuple (SqT.of (K := X.K) hq)
    have p : st.heap.IsTuple a its.toArray := p
    obtain ⟨f0, f1, f2, f3, f4, f5⟩ := hf it (by simp)
    have hai : a ≠ it := by
      intro q
      obtain ⟨o, ho, hcl, _⟩ := id p
      obtain ⟨o2, ho2, hcl2, _⟩ := id hit
      rw [q, ho2] at ho
      cases ho
      rw [hcl] at hcl2
      exact absurd (Value.type.inj hcl2) (by decide)
    have D := Draws.tuple (prog := X.prog) (w := X.w) (A := X.A.in1) (inv.ok.hd hc) it a hai its.toArray
    have ei : its.toArray.size = i := by rw [List.size_toArray, ← rv.length, hx]
    exact wpAny_pyNext_enum_endD D he (by rw [ei]; exact ⟨hit, p⟩) fun h' eb => ⟨rfl, inv.turned (t' := st.toks) (fun b o hb q => eb b o hb q) f0 f1 f3 f4 f5⟩
  self := by
    rintro A i st Q E ⟨⟨_, he⟩, _⟩ h
    exact wpAny_pyIter_enum he h
theorem meets_enum1 {v : Value} {o : Obj} {HH : Heap → Prop} (B : Begins v o HH) :
    Meets (Builtin.«enumerate.__new__» ⟨[.type "enumerate", v], []⟩) (fun _ R s => HH s.heap ∧
      R (.ok (.ret (.ref (s.heap.push o).objs.size))) { s with heap := (s.heap.push o).push { cls := .type "enumerate", data := .fields #[.none, .bool false, .ref s.heap.objs.size, rawInt 0, .none, .none] } }) :=
  .of_wp fun prog w A R s h => by
    obtain ⟨hp, g, d, tk, os⟩ := s; obtain ⟨h1, h⟩ := h; have hsub := sub_enumerate
    have q1 : ∀ {A' : Around} {E : Value → Shared → Prop} {Q : Value → Shared → Prop}, Q (.ref hp.objs.size) ⟨hp.push o, g, d, tk, os⟩ → wpAny (model prog w) A' (pyIter v) Q E ⟨hp, g, d, tk, os⟩ := fun q => B.iter prog w _ _ ⟨hp, g, d, tk, os⟩ _ h1 q
    wp_walk using q1
    refine wpAny_stack_any fun st => wpAny_pure ?_
    split
    · rename_i c _ _ _ _ _
      cases (c == Value.type "enumerate")
      · wp_walk using q1; exact ⟨_, rfl, h⟩
      · wp_walk using q1; exact ⟨_, rfl, h⟩
    · wp_walk using q1; exact ⟨_, rfl, h⟩
def iEnumS (ta : TA) : TI := fun σ H R => ta σ H fun vs H1 => ∃ (a : Addr) (b : Bool) (xs : List V), vs = [.ref a] ∧ H1 a = some (sq b xs) ∧ R (Ieb b a) H1
theorem pi_enumS {X : Cx} {e : Expr} {ta : TA} {p pos tpos : Pos} {elts : List Expr} {kk : Nat} (hg : Gl X "enumerate") (hm : X.mg "enumerate" = none) (ha : PA X [e] ta) (hs : starEach [e] X.env = [(false, eval e X.env)] := by rfl) :
    PI X (.Tuple elts kk tpos) (.Call (.Name "enumerate" p) [e] [] pos) (iEnumS ta) := by
  constructor
  intro ps st σ H R inv h
  refine PyProof.Rows.Call_ (ld_blt inv hg hm PyProof.Rows.boot_enumerate (PyProof.Rows.callWith_type1 (thn (ha.run pos ps st σ H _ inv h) ?_) hs rfl))
  rintro us st1 ⟨vs, H1, I1, r1, a, b, xs, rfl, hq, q⟩
  cases r1 with
  | cons r rr =>
    cases rr
    cases r
    have ne : st1.heap.objs.size + 1 ≠ st1.heap.objs.size := Nat.succ_ne_self _
    have pr : ∀ b, b ∈ [st1.heap.objs.size + 1, st1.heap.objs.size] → FpOk X ps H1 b := by
      intro b hb
      have hle : st1.heap.objs.size ≤ b := by
        have hb : b = st1.heap.objs.size + 1 ∨ b = st1.heap.objs.size := by simpa using hb
        rcases hb with rfl | rfl
        · exact Nat.le_add_right _ _
        · exact Nat.le_refl _
      exact I1.fpOk hle (I1.hok.fresh hle)
    cases b with
    | false =>
      obtain ⟨its, rv, li, _⟩ := I1.list (SqL.of (K := X.K) hq)
      refine call_enumerate_list li.isList fun h' he hit hsz hk => wpAny_pyIter_enum he ?_
      exact ⟨_, _, _, _, H1, rfl, I1.kept (t' := st1.toks) hk, turn_eL a (st1.heap.objs.size + 1) st1.heap.objs.size, ⟨⟨.none, he⟩, hit, ne⟩, pr, q⟩
    | true =>
      obtain ⟨its, rv, tu, _⟩ := I1.tuple (SqT.of (K := X.K) hq)
      have tu : st1.heap.IsTuple a its.toArray := tu
      refine callType_new F.called_enumerate (by decide) (F.typeCall_enumerate_1 _) (F.newCall_enumerate_1 _) (fun obj => F.args_object_init_2 obj _) F.entry_enumerate_new (meets_enum1 (begins_tuple a its.toArray)) ⟨tu, ?_⟩
      have hz : (st1.heap.push { cls := .type "tuple_iterator", data := .fields #[.ref a, .int 0 0] }).objs.size = st1.heap.objs.size + 1 := Heap.size_push ..
      show _ ∧ _
      rw [hz]
      have he : IsEnum ((st1.heap.push { cls := .type "tuple_iterator", data := .fields #[.ref a, .int 0 0] }).push { cls := .type "enumerate", data := .fields #[.none, .bool false, .ref st1.heap.objs.size, rawInt 0, .none, .none] }) (st1.heap.objs.size + 1) st1.heap.objs.size 0 .none := by
        have := Heap.get?_push_size (st1.heap.push { cls := .type "tuple_iterator", data := .fields #[.ref a, .int 0 0] }) (o := { cls := .type "enumerate", data := .fields #[.none, .bool false, .ref st1.heap.objs.size, rawInt 0, .none, .none] }) rfl
        rw [hz] at this; exact this
      refine ⟨⟨_, he, rfl⟩, wpAny_pyIter_enum he ?_⟩
      have keep : ∀ b o, st1.heap.get? b = some o → ((st1.heap.push { cls := .type "tuple_iterator", data := .fields #[.ref a, .int 0 0] }).push { cls := .type "enumerate", data := .fields #[.none, .bool false, .ref st1.heap.objs.size, rawInt 0, .none, .none] }).get? b = some o :=
        fun b o x => Heap.get?_push_of_some _ (Heap.get?_push_of_some _ x)
      exact ⟨_, _, _, _, H1, rfl, I1.kept (t' := st1.toks) keep, turn_eT a (st1.heap.objs.size + 1) st1.heap.objs.size, ⟨⟨.none, he⟩, ⟨_, Heap.get?_push_of_some _ (Heap.get?_push_size _ rfl), rfl, rfl⟩, ne⟩, pr, q⟩
/-- a for over it -/
theorem for_enum {a : Addr} {b : Bool} {xs : List V} {g : TG} {tb : TS} {D : Ends} {σ : L2.St} {H : Hp} (Pv : Nat → L2.St → Hp → Prop) (h0 : Pv 0 σ H) (hl : ∀ i σ H, Pv i σ H → H a = some (sq b xs))
    (turn : ∀ i x T σ H, xs[i]? = some x → Pv i σ H → H T = none → g (.ref T) σ (upd H T (.tup [.int (i : Nat), x])) fun σ2 H2 => tb ⟨Pv (i + 1), D.rt, D.nx, Pv (i + 1)⟩ σ2 H2) (fin : ∀ σ H, Pv xs.length σ H → D.nx σ H) :
    tFor (fun _ H R => R (Ieb b a) H) g tb D σ H := by
  refine ⟨fun i m σ H => m = xs.length - i ∧ i ≤ xs.length ∧ Pv i σ H, ⟨_, rfl, Nat.zero_le _, h0⟩, ?_⟩
  rintro i m σ H ⟨rfl, hi, p⟩
  have hq := hl i σ H p
  by_cases c : i < xs.length
  · obtain ⟨x, hx, _⟩ := get_of c
    refine .inr ⟨⟨xs, x, hq, hx⟩, Pv (i + 1), fun σ' H' p' => ⟨xs.length - (i + 1), by omega, rfl, c, p'⟩, ?_⟩
    rintro v H' ⟨T, y, rfl, nT, rfl, hy⟩
    have e := hy xs hq
    rw [hx] at e
    cases e
    exact turn i x T σ H hx p nT
  · have e : i = xs.length := by omega
    subst e
    exact .inl ⟨⟨xs, hq, rfl⟩, fin σ H p⟩


def sp_whole (K : PySem.W.Frag) : Sp := fun vs H Q _ => ∃ (x : V) (k : Kd), vs = [x] ∧ Kn K H x k ∧ Q (.bl (isI x)) H
theorem ok_is_whole (T : Txt K mg) : FnOk P w K mg base CX0 1 T.f_is_whole T.d_is_whole ["thing"] (sp_whole K) := by
  refine T.F_is_whole.ok sc_is_whole (fun vs H Q E h => ?_) (fun cdv A outer s H vs Q E hr h => ?_)
  · obtain ⟨x, k, rfl, ty, q⟩ := h; rfl
  obtain ⟨x, k, rfl, ty, q⟩ := h
  refine ⟨_, (pss_one (ps_ret (pe_and (pe_callB call_isi (by rfl) T.n_isinstance (by decide +kernel) (pa_cons (pv 0) (pa_cons (pe_bltn (v := .ty "int") (by rfl) T.n_int (by decide +kernel) rfl) pa_nil))) (pe_one (pe_not (pe_callB call_isi (by rfl) T.n_isinstance (by decide +kernel) (pa_cons (pv 0) (pa_cons (pe_bltn (v := .ty "bool") (by rfl) T.n_bool (by decide +kernel) rfl) pa_nil)))))))), ?_⟩
  refine ⟨_, rfl, _, _, _, _, _, rfl, ClsV.ty _, ty, kit_ty (kb_int k), _, rfl, ?_⟩
  rw [ty.isI] at q
  by_cases h1 : k = .int ∨ k = .bl
  · refine ifT (decide_eq_true h1) ?_
    refine ⟨_, rfl, _, _, _, _, _, rfl, ClsV.ty _, ty, kit_ty (kb_bool k), _, rfl, ?_⟩
    rcases h1 with rfl | rfl <;> exact q
  · refine ifF (decide_eq_false h1) ?_
    have h2 : k ≠ .int := fun e => h1 (.inl e)
    rw [decide_eq_false h2] at q
    exact q
def sp_within (K : PySem.W.Frag) : Sp := fun vs H Q _ => ∃ (x : V) (k : Kd) (lo hi : Int), vs = [x, .int lo, .int hi] ∧ Kn K H x k ∧ Q (.bl (wb x lo hi)) H
theorem ok_is_within (T : Txt K mg) : FnOk P w K mg base CX0 2 T.f_is_within T.d_is_within ["thing", "low", "high"] (sp_within K) := by
  refine T.F_is_within.ok sc_is_within (fun vs H Q E h => ?_) (fun cdv A outer s H vs Q E hr h => ?_)
  · obtain ⟨x, k, lo, hi, rfl, ty, q⟩ := h; rfl
  obtain ⟨x, k, lo, hi, rfl, ty, q⟩ := h
  refine ⟨_, (pss_one (ps_ret (pe_and (pe_call (ok_is_whole T) (hr.mono (by decide)) rfl T.g_is_whole T.k_is_whole T.b_is_whole .nil pass0 (pa_cons (pv 0) pa_nil)) (pe_one (pe_chain op_le op_le (pv 1) (pv 0) (pv 2)))))), ?_⟩
  refine ⟨_, rfl, x, k, rfl, ty, _, rfl, ?_⟩
  cases x with
  | int i =>
    refine ifT rfl ?_
    refine ⟨_, rfl, _, rfl, _, _, rfl, rfl, _, rfl, ?_⟩
    refine ite2 (fun c => ?_) (fun c => ?_)
    · refine ⟨_, rfl, _, _, rfl, rfl, ?_⟩
      have e : wb (.int i) lo hi = decide (i ≤ hi) := by show (decide (lo ≤ i) && decide (i ≤ hi)) = _; rw [c]; rfl
      rw [e] at q; exact q
    · have e : wb (.int i) lo hi = false := by show (decide (lo ≤ i) && decide (i ≤ hi)) = _; rw [Bool.eq_false_iff.mpr c]; rfl
      rw [e] at q; exact q
  | _ => exact ifF rfl q


/-! ### the law's draws -/
def sp_cell (K : PySem.W.Frag) : Sp := fun vs H Q _ => ∃ (a : Addr) (ns : List Int) (k : Int), vs = [.ref a, .int k] ∧ SqL K H a (ns.map V.int) ∧ 0 ≤ k ∧ ∀ c, Q (.int c) H
theorem ok_l_cell (T : Txt K mg) : FnOk P w K mg base CX0 1 T.f_l_cell T.d_l_cell ["_law_script", "_law_k"] (sp_cell K) := by
  refine T.F_l_cell.ok sc_l_cell (fun vs H Q E h => ?_) (fun cdv A outer s H vs Q E hr h => ?_)
  · obtain ⟨a, ns, k, rfl, hS, h0, q⟩ := h; rfl
  obtain ⟨a, ns, k, rfl, hS, h0, q⟩ := h
  refine ⟨_, (pss_cons (ps_if (pt_cmpR op_lt (pv 1) (pe_callB call_len_seq (by rfl) T.n_len (by decide +kernel) (pa_cons (pv 0) pa_nil)) (nomark _)) (pss_one (ps_ret (pe_ix ix_list (pv 0) (pv 1) (fun _ _ => rfl)))) pss_nil)
      (pss_one (ps_ret (pe_op op_add (pe_op op_mul pe_int (pv 1)) pe_int)))), ?_⟩
  refine ⟨_, rfl, _, rfl, a, _, rfl, .inl hS, _, _, rfl, rfl, _, rfl, ?_⟩
  refine ite2 (fun c => ?_) (fun c => ?_)
  · rw [List.length_map] at c
    have c := of_decide_eq_true c
    have hk : ns[k.toNat]? = some (ns[k.toNat]'(by omega)) := List.getElem?_eq_getElem _
    refine ⟨_, rfl, _, rfl, a, _, _, _, rfl, rfl, hS, at_of (j := k.toNat) (by omega) (by rw [List.getElem?_map, hk]; rfl), q _⟩
  · tm_at "go"
    exact q _
def sp_well : Sp := fun vs H Q _ => ∃ c : Int, vs = [.int c] ∧ ∀ p x y z, H p = none → Q (.ref p) (upd H p (wl x y z))
theorem ok_l_well (T : Txt K mg) : FnOk P w K mg base CX0 1 T.f_l_well T.d_l_well ["_law_cell_here"] (sp_well) := by
  refine T.F_l_well.ok sc_l_well (fun vs H Q E h => ?_) (fun cdv A outer s H vs Q E hr h => ?_)
  · obtain ⟨c, rfl, q⟩ := h; rfl
  obtain ⟨c, rfl, q⟩ := h
  refine ⟨_, (pss_cons (ps_if (pt_cmpR op_ge (pv 0) (pe_op op_pow pe_int pe_int) (nomark _)) (pss_one (ps_ret (pe_lst (pa_cons (pv 0) (pa_cons (pe_op op_mod (pv 0) pe_int) (pa_cons pe_int pa_nil)))))) pss_nil)
      (pss_one (ps_ret (pe_lst (pa_cons pe_int (pa_cons (pe_op op_mod (pv 0) pe_int) (pa_cons pe_int pa_nil))))))), ?_⟩
  tm_at "go"
  refine ite2 (fun c => ?_) (fun c => ?_)
  · tm_at "go"
    exact ⟨Nat.le_of_ble_eq_true rfl, fun p np => q p _ _ _ np⟩
  · tm_at "go"
    exact ⟨Nat.le_of_ble_eq_true rfl, fun p np => q p _ _ _ np⟩
def sp_draw : Sp := fun vs H Q _ => ∃ (a : Addr) (n x y z : Int), vs = [.ref a, .int n] ∧ H a = some (wl x y z) ∧ 0 < n ∧ n < 2 ^ 200 ∧
  ∀ r x' y' z', 0 ≤ r → r < n → Q (.int r) (upd H a (wl x' y' z'))
theorem log_of {n : Int} (h0 : 0 < n) (h : n < 2 ^ 200) : n.natAbs.log2 < 9000 := by
  have h1 : n.natAbs < 2 ^ 200 := by omega
  exact Nat.lt_of_lt_of_le ((Nat.log2_lt (by omega)).mpr h1) (by decide)
theorem ok_l_draw (T : Txt K mg) : FnOk P w K mg base CX0 1 T.f_l_draw T.d_l_draw ["_law_well_here", "_law_many_here"] (sp_draw) := by
  refine T.F_l_draw.ok sc_l_draw (fun vs H Q E h => ?_) (fun cdv A outer s H vs Q E hr h => ?_)
  · obtain ⟨a, n, x, y, z, rfl, hw, hn, hl, q⟩ := h; rfl
  obtain ⟨a, n, x, y, z, rfl, hw, hn, hl, q⟩ := h
  refine ⟨_, (pss_cons (ps_if (pt_cmpR op_gt (pe_ix ix_list (pv 0) pe_int (fun _ _ => rfl)) pe_int (nomark _)) (pss_cons (ps_set (i := 2) sc_l_draw.nd rfl (Or.inl rfl) (pe_op op_mod (pe_ix ix_list (pv 0) pe_int (fun _ _ => rfl)) (pv 1)))
      (pss_cons (ps_asg (pe_op op_fdivW (pe_ix ix_list (pv 0) pe_int (fun _ _ => rfl)) (pv 1)) (pg_sub (pv 0) pe_int set_list))
      (pss_one (ps_ret (pv 2))))) pss_nil)
      (pss_cons (ps_asg (pe_op op_add (pe_ix ix_list (pv 0) pe_int (fun _ _ => rfl)) pe_int) (pg_sub (pv 0) pe_int set_list))
      (pss_cons (ps_set (i := 2) sc_l_draw.nd rfl (Or.inl rfl) (pe_op op_mod (pe_op op_add (pe_op op_add (pe_op op_mul (pe_ix ix_list (pv 0) pe_int (fun _ _ => rfl)) pe_int) (pe_op op_mul pe_int (pe_ix ix_list (pv 0) pe_int (fun _ _ => rfl)))) pe_int) pe_int))
      (pss_cons (ps_set (i := 2) sc_l_draw.nd rfl (Or.inl rfl) (pe_op op_mod (pe_op op_add (pe_op op_add (pe_op op_mul (pv 2) (pv 2)) (pe_op op_mul pe_int (pe_ix ix_list (pv 0) pe_int (fun _ _ => rfl)))) pe_int) pe_int))
      (pss_one (ps_ret (pe_op op_mod (pe_op op_mod (pe_op op_mul (pv 2) (pv 2)) pe_int) (pv 1)))))))), ?_⟩
  tm_at "go"
  refine ite2 (fun c => ?_) (fun c => ?_)
  · tm_at "go"
    refine ⟨hn, ?_⟩
    tm_at "go"
    refine ⟨⟨hn, log_of hn hl⟩, ?_⟩
    tm_at "go"
    exact q _ _ _ _ (Int.emod_nonneg _ (by omega)) (Int.emod_lt_of_pos _ hn)
  · tm_at "go"
    exact ⟨hn, q _ _ _ _ (Int.emod_nonneg _ (by omega)) (Int.emod_lt_of_pos _ hn)⟩


/-! ### more of the law's draws -/
def sp_lmany : Sp := fun vs H Q _ => ∃ (a : Addr) (n x y z : Int), vs = [.ref a, .int n] ∧ H a = some (wl x y z) ∧ 5 ≤ n ∧ n ≤ 1000 ∧
  ∀ r x' y' z' H', 0 ≤ r → r ≤ n → H' a = some (wl x' y' z') → Fr a H H' → Q (.int r) H'
theorem ok_l_many (T : Txt K mg) : FnOk P w K mg base CX0 2 T.f_l_many T.d_l_many ["_law_well_here", "_law_most"] (sp_lmany) := by
  refine T.F_l_many.ok sc_l_many (fun vs H Q E h => ?_) (fun cdv A outer s H vs Q E hr h => ?_)
  · obtain ⟨a, n, x, y, z, rfl, hw, hn, hn2, q⟩ := h; rfl
  obtain ⟨a, n, x, y, z, rfl, hw, hn, hn2, q⟩ := h
  refine ⟨_, (pss_one (ps_ret (pe_ix ix_list (pe_lst (pa_cons (pe_call (ok_l_draw T) (hr.mono (by decide)) rfl T.g_l_draw T.k_l_draw T.b_l_draw .nil pass0 (pa_cons (pv 0) (pa_cons pe_int pa_nil))) (pa_cons (pe_call (ok_l_draw T) (hr.mono (by decide)) rfl T.g_l_draw T.k_l_draw T.b_l_draw .nil pass0 (pa_cons (pv 0) (pa_cons (pe_op op_add (pv 1) pe_int) pa_nil))) (pa_cons (pv 1) pa_nil)))) (pe_callB (call_max2 rfl) (by rfl) T.n_max (by decide +kernel) (pa_cons pe_int (pa_cons (pe_op op_sub (pe_call (ok_l_draw T) (hr.mono (by decide)) rfl T.g_l_draw T.k_l_draw T.b_l_draw .nil pass0 (pa_cons (pv 0) (pa_cons pe_int pa_nil))) pe_int) pa_nil))) (fun _ _ => rfl)))), ?_⟩
  tm_at "go"
  refine ⟨_, _, _, _, _, rfl, hw, (by decide), (by decide), fun r1 x1 y1 z1 h1 g1 => ?_⟩
  tm_at "go"
  refine ⟨_, _, _, _, _, rfl, upd_same, (by omega), (by omega), fun r2 x2 y2 z2 h2 g2 => ?_⟩
  tm_at "go"
  refine ⟨Nat.le_of_ble_eq_true rfl, fun l nl => ?_⟩
  have hal : a ≠ l := ne_nn nl upd_same
  have f := ((Fr.put (a := a) (H := H) (o := wl x1 y1 z1)).trans (Fr.put (o := wl x2 y2 z2))).mk (o := .lst [.int r1, .int r2, .int n]) upd_same nl
  tm_at "go"
  refine ⟨_, _, _, _, _, rfl, (by tm_at "hp"), (by decide), (by decide), fun r3 x3 y3 z3 h3 g3 => ?_⟩
  tm_at "go"
  have cs : (if r3 - 5 > 0 then r3 - 5 else 0) = 0 ∨ (if r3 - 5 > 0 then r3 - 5 else 0) = 1 ∨ (if r3 - 5 > 0 then r3 - 5 else 0) = 2 := by split <;> omega
  generalize (if r3 - 5 > 0 then r3 - 5 else 0) = u at *
  rcases cs with rfl | rfl | rfl
  · exact ⟨l, _, _, _, rfl, rfl, SqL.of (by tm_at "hp"), rfl, q r1 x3 y3 z3 _ h1 (by omega) upd_same (f.trans Fr.put)⟩
  · exact ⟨l, _, _, _, rfl, rfl, SqL.of (by tm_at "hp"), rfl, q r2 x3 y3 z3 _ h2 (by omega) upd_same (f.trans Fr.put)⟩
  · exact ⟨l, _, _, _, rfl, rfl, SqL.of (by tm_at "hp"), rfl, q n x3 y3 z3 _ (by omega) (by omega) upd_same (f.trans Fr.put)⟩


/-- a tuple of ints told, and the ints due -/
def sp_told : Sp := fun vs H Q _ => ∃ (p d : Addr) (b : Bool) (ns : List Int), vs = [.ref p, .ref d] ∧ H p = some (.tup (ns.map V.int)) ∧ H d = some (sq b (ns.map V.int)) ∧ ns.length ≤ 1000 ∧
  ∀ H', Same H H' → Q (.bl true) H'
theorem ok_l_told (T : Txt K mg) : FnOk P w K mg base CX0 1 T.f_l_told T.d_l_told ["_law_found", "_law_due"] (sp_told) := by
  refine T.F_l_told.ok sc_l_told (fun vs H Q E h => ?_) (fun cdv A outer s H vs Q E hr h => ?_)
  · obtain ⟨p, d, b, ns, rfl, hp, hd, hl, q⟩ := h; rfl
  obtain ⟨p, d, b, ns, rfl, hp, hd, hl, q⟩ := h
  refine ⟨_, (pss_cons (ps_if (PW.pt (pw_or (pt_not (pt_val (pe_callB call_isi (by rfl) T.n_isinstance (by decide +kernel) (pa_cons (pv 0) (pa_cons (pe_bltn (v := .ty "tuple") (by rfl) T.n_tuple (by decide +kernel) rfl) pa_nil))))) (pw_or1 (pt_cmpR (op_neD hr.units) (pv 0) (pe_callTy call_tuple_of (by rfl) T.n_tuple (by decide +kernel) (pa_cons (pv 1) pa_nil)) (nomark _))))) (pss_one (ps_ret pe_bl)) pss_nil)
      (pss_one (ps_ret (pe_callB (cr_all rfl) (by rfl) T.n_all (by decide +kernel) (pa_cons (pe_lc (own := [("_law_place", 2)]) (g := gName 2) (tt := tYes) rfl sc_l_told.nd (pi_tup (pv 0)) (blkOk_by (own := [("_law_place", 2)]) (N := ["_law_found", "_law_due", "_law_place"]) (sc := defScope s_l_told) (by decide +kernel)) (fun _ _ _ _ _ => (pg_name (i := 2) sc_l_told.nd rfl (Or.inl rfl))) (fun _ _ _ _ _ => pts_nil) (fun _ _ _ _ _ => (pe_and (pe_callB (show CallR _ (.builtin "isinstance") (rIsi K) from call_isi) (by rfl) T.n_isinstance (by decide +kernel) (pa_cons (pv 2) (pa_cons (pe_bltn (v := .ty "int") (by rfl) T.n_int (by decide +kernel) rfl) pa_nil))) (pe_one (pe_not (pe_callB (show CallR _ (.builtin "isinstance") (rIsi K) from call_isi) (by rfl) T.n_isinstance (by decide +kernel) (pa_cons (pv 2) (pa_cons (pe_bltn (v := .ty "bool") (by rfl) T.n_bool (by decide +kernel) rfl) pa_nil)))))))) pa_nil))))), ?_⟩
  tm_at "go"
  refine ⟨_, _, _, _, _, rfl, ClsV.ty _, kn_tup hp, kit_ty (kb_tuple _), ?_⟩
  tm_at "go"
  have fin : ∀ (H1 : Hp), Same H H1 → ∀ D, H1 D = none → LcOk (Itb true K p) (gName 2) tYes (tAndV (tCB (rIsi K) (tCons (tVar 2) (tCons (tC (V.ty "int")) tNil))) (tNotV (tCB (rIsi K) (tCons (tVar 2) (tCons (tC (V.ty "bool")) tNil))))) [2] [some (.ref p), some (.ref d), none] H1 D
      (fun H2 => rAll K [.ref D] H2 Q) := by
    intro H1 s1
    refine lcP (b := true) (e := V.int) (as := ns) (fun _ => true) (fun _ => .bl true) (s1.g hp) (by omega) (fun _ => rfl) (fun x H' _ _ R k => k _ (Same.refl _)) (fun x H' hx _ s' R k => ?_) (fun D H' nD s' hD => ?_)
    · refine ⟨_, rfl, _, _, _, _, _, rfl, ClsV.ty _, kn_int x, kit_ty (kb_int _), _, rfl, ?_⟩
      refine ifT rfl ?_
      exact ⟨_, rfl, _, _, _, _, _, rfl, ClsV.ty _, kn_int x, kit_ty (kb_bool _), _, rfl, k _ (Same.refl _)⟩
    · exact ⟨D, _, rfl, SqL.of (by rw [hD, filter_yes, map_true]), by rw [all_yes]; exact q _ (s1.trans s')⟩
  cases b with
  | false =>
    refine ⟨d, _, rfl, .inl ⟨SqL.of hd, fun u nu => ?_⟩⟩
    have s1 : Same H (upd H u (.tup (ns.map V.int))) := Same.new nu
    refine neI (b := true) (c := true) (s1.g hp) upd_same ?_
    tm_at "go"
    refine ifF (by simp) ?_
    exact ⟨_, rfl, p, rfl, ⟨_, SqT.of (s1.g hp)⟩, fin _ s1⟩
  | true =>
    refine ⟨d, _, rfl, .inr ⟨SqT.of hd, ?_⟩⟩
    refine neI (b := true) (c := true) hp hd ?_
    tm_at "go"
    refine ifF (by simp) ?_
    exact ⟨_, rfl, p, rfl, ⟨_, SqT.of hp⟩, fin _ (Same.refl _)⟩


end
section
variable {P : Program} {w : World} {K : PySem.W.Frag} {mg : Str → Option Value} {base : Heap}

/-! ### orders -/
structure Ord (ns : List Int) : Prop where
  nd : ns.Nodup
  bd : ∀ x ∈ ns, 0 ≤ x ∧ x < ns.length
theorem Ord.of {ns : List Int} {n : Nat} (h : ns.Perm (below n)) : Ord ns := by
  refine ⟨?_, fun x hx => ?_⟩
  · refine h.nodup_iff.mpr ((below_up n).imp fun h e => ?_)
    omega
  · have := below_mem (h.mem_iff.mp hx)
    have := h.length_eq
    rw [below_len] at this
    omega
theorem nodup_le : ∀ (l m : List Int), l.Nodup → (∀ x ∈ l, x ∈ m) → l.length ≤ m.length
  | [], _, _, _ => Nat.zero_le _
  | x :: r, m, h, hs => by
    have hx := hs x List.mem_cons_self
    obtain ⟨h1, h2⟩ := List.nodup_cons.mp h
    have ih := nodup_le r (m.erase x) h2 fun y hy => (List.mem_erase_of_ne (show y ≠ x from fun e => h1 (by rw [← e]; exact hy))).mpr (hs y (List.mem_cons_of_mem _ hy))
    rw [List.length_erase_of_mem hx] at ih
    have : 0 < m.length := List.length_pos_of_mem hx
    rw [List.length_cons]; omega
theorem Ord.all {ns : List Int} (h : Ord ns) {j : Nat} (hj : j < ns.length) : (j : Int) ∈ ns := by
  apply Classical.byContradiction
  intro c
  have hm : (j : Int) ∈ below ns.length := List.mem_of_getElem? (below_get hj)
  have := nodup_le ns ((below ns.length).erase j) h.nd fun x hx => by
    refine (List.mem_erase_of_ne (show x ≠ (j : Int) from fun e => c (by rw [← e]; exact hx))).mpr ?_
    have := h.bd x hx
    unfold below
    exact List.mem_map.mpr ⟨x.toNat, List.mem_range.mpr (by omega), by omega⟩
  rw [List.length_erase_of_mem hm, below_len] at this
  omega
def sp_isrow (K : PySem.W.Frag) : Sp := fun vs H Q _ => ∃ (p : Addr) (b : Bool) (xs : List V), vs = [.ref p] ∧ H p = some (sq b xs) ∧ ∀ H', Same H H' → Q (.bl true) H'
theorem ok_is_row (T : Txt K mg) : FnOk P w K mg base CX0 1 T.f_is_row T.d_is_row ["thing"] (sp_isrow K) := by
  refine T.F_is_row.ok sc_is_row (fun vs H Q E h => ?_) (fun cdv A outer s H vs Q E hr h => ?_)
  · obtain ⟨p, b, xs, rfl, hp, q⟩ := h; rfl
  obtain ⟨p, b, xs, rfl, hp, q⟩ := h
  refine ⟨_, (pss_one (ps_ret (pe_callB call_isiT (by rfl) T.n_isinstance (by decide +kernel) (pa_cons (pv 0) (pa_cons (pe_tup (pa_cons (pe_bltn (v := .ty "list") (by rfl) T.n_list (by decide +kernel) rfl) (pa_cons (pe_bltn (v := .ty "tuple") (by rfl) T.n_tuple (by decide +kernel) rfl) pa_nil))) pa_nil))))), ?_⟩
  tm_at "go"
  refine ⟨Nat.le_of_ble_eq_true rfl, fun t nt => ?_⟩
  refine ⟨_, _, _, _, _, _, rfl, upd_same, .cons (.ty _) (.cons (.ty _) .nil), kn_sq (by tm_at "hp"), kb_lt _, ?_⟩
  have e : decide ((if b then Kd.tup else Kd.lst) = Kd.lst ∨ (if b then Kd.tup else Kd.lst) = Kd.tup) = true := by cases b <;> rfl
  rw [e]
  exact q _ (Same.new nt)
def marks (ns : List Int) (i : Nat) : List Bool := (List.range ns.length).map (fun j : Nat => decide ((j : Int) ∈ ns.take i))
theorem marks_get {ns : List Int} {i j : Nat} (h : j < ns.length) : (marks ns i)[j]? = some (decide ((j : Int) ∈ ns.take i)) := by
  unfold marks; rw [List.getElem?_map, List.getElem?_range h]; rfl
theorem marks_set {ns : List Int} {i j : Nat} (hx : ns[i]? = some (j : Int)) : (marks ns i).set j true = marks ns (i + 1) := by
  apply List.ext_getElem?
  intro k
  rw [List.getElem?_set]
  by_cases hk : k < ns.length
  · rw [marks_get hk, marks_get hk, take_more hx]
    by_cases e : j = k
    · subst e
      rw [if_pos rfl, if_pos (by simp [marks]; exact hk)]
      simp
    · rw [if_neg e]
      have : ¬ (k : Int) = (j : Int) := by omega
      simp [this]
  · have l1 : ∀ i, (marks ns i).length = ns.length := fun i => by simp [marks]
    rw [List.getElem?_eq_none_iff.mpr (by rw [l1]; omega), List.getElem?_eq_none_iff.mpr (by rw [l1]; omega)]
    split
    · rename_i e
      subst e
      rw [if_neg (by rw [l1]; omega)]
    · rfl
def sp_isorder (K : PySem.W.Frag) : Sp := fun vs H Q _ => ∃ (p : Addr) (b : Bool) (ns : List Int), vs = [.ref p] ∧ H p = some (sq b (ns.map V.int)) ∧ Ord ns ∧ ns.length ≤ 60 ∧ ∀ H', Same H H' → Q (.bl true) H'
theorem ok_is_order (T : Txt K mg) : FnOk P w K mg base CX0 3 T.f_is_order T.d_is_order ["thing"] (sp_isorder K) := by
  refine T.F_is_order.ok sc_is_order (fun vs H Q E h => ?_) (fun cdv A outer s H vs Q E hr h => ?_)
  · obtain ⟨p, b, ns, rfl, hp, ho, hl, q⟩ := h; rfl
  obtain ⟨p, b, ns, rfl, hp, ho, hl, q⟩ := h
  refine ⟨_, (pss_cons (ps_if (PW.pt (pw_or (pt_not (pt_val (pe_call (ok_is_row T) (hr.mono (by decide)) rfl T.g_is_row T.k_is_row T.b_is_row .nil pass0 (pa_cons (pv 0) pa_nil)))) (pw_or1 (pt_cmpR op_gt (pe_callB call_len_seq (by rfl) T.n_len (by decide +kernel) (pa_cons (pv 0) pa_nil)) (pe_glob (v := .int (60)) rfl T.c_MOST_LAID.choose_spec ⟨_, rfl⟩) (nomark _))))) (pss_one (ps_ret pe_bl)) pss_nil)
      (pss_cons (ps_set (i := 1) sc_is_order.nd rfl (Or.inl rfl) (pe_op op_rep (pe_lst (pa_cons pe_bl pa_nil)) (pe_callB call_len_seq (by rfl) T.n_len (by decide +kernel) (pa_cons (pv 0) pa_nil))))
      (pss_cons (ps_for PassesOwn.never rfl (pi_seq (pv 0)) (pg_name (i := 2) sc_is_order.nd rfl (Or.inl rfl))
      (pss_cons (ps_if (PW.pt (pw_or (pt_not (pt_val (pe_call (ok_is_within T) (hr.mono (by decide)) rfl T.g_is_within T.k_is_within T.b_is_within .nil pass0 (pa_cons (pv 2) (pa_cons pe_int (pa_cons (pe_op op_sub (pe_callB call_len_seq (by rfl) T.n_len (by decide +kernel) (pa_cons (pv 0) pa_nil)) pe_int) pa_nil)))))) (pw_or1 (pt_val (pe_ix ix_list (pv 1) (pv 2) (fun _ _ => rfl)))))) (pss_one (ps_ret pe_bl)) pss_nil)
      (pss_one (ps_asg pe_bl (pg_sub (pv 1) (pv 2) set_list)))))
      (pss_one (ps_ret pe_bl))))), ?_⟩
  have hlen : (ns.map V.int).length = ns.length := List.length_map ..
  tm_at "go"
  refine ⟨p, b, _, rfl, hp, fun H1 s1 => ?_⟩
  have hp1 := s1.g hp
  tm_at "go"
  refine ifF (decide_eq_false (by rw [hlen]; omega)) ?_
  tm_at "go"
  refine ⟨Nat.le_of_ble_eq_true rfl, fun l0 nl0 => ?_⟩
  have s2 := s1.mk (o := .lst [.bl false]) nl0
  have hp2 := ((Same.refl H1).mk (o := .lst [.bl false]) nl0).g hp1
  tm_at "go"
  refine ⟨l0, _, _, rfl, rfl, upd_same, by omega, by rw [hlen]; omega, ?_, fun l nl => ?_⟩
  · rw [hlen]
    show 1 * (ns.length : Int).toNat ≤ sizeLine
    exact Nat.le_trans (show 1 * (ns.length : Int).toNat ≤ 60 by omega) (by decide)
  have eflat : (List.replicate ((((ns.map V.int).length : Nat) : Int)).toNat [V.bl false]).flatten = (marks ns 0).map V.bl := by
    rw [List.flatten_replicate_singleton, hlen]
    unfold marks
    have e : (ns.length : Int).toNat = ns.length := by omega
    rw [e, List.map_map]
    apply List.ext_getElem?
    intro j
    by_cases hj : j < ns.length
    · rw [List.getElem?_replicate, if_pos hj, List.getElem?_map, List.getElem?_range hj]; simp
    · rw [List.getElem?_eq_none_iff.mpr (by simp; omega), List.getElem?_eq_none_iff.mpr (by simp; omega)]
  rw [eflat]
  have nl1 := s2.free nl
  refine ⟨_, rfl, p, b, _, rfl, (by tm_at "hp"), for_sq (b := b) (xs := ns.map V.int) (fun i σ H' => ∃ v, σ = [some (.ref p), some (.ref l), v] ∧ Same H H' ∧ H' l = some (.lst ((marks ns i).map V.bl))) ⟨none, rfl, s2.mk nl, upd_same⟩ (fun i σ H' _ ⟨_, _, s', _⟩ => s'.g hp) ?_ ?_⟩
  · rintro i y σ H' hy ⟨v, rfl, s', hl'⟩
    obtain ⟨x, hx, rfl⟩ := int_item hy
    have hb := ho.bd x (List.mem_of_getElem? hx)
    obtain ⟨j, rfl⟩ : ∃ j : Nat, x = (j : Int) := ⟨x.toNat, by omega⟩
    have hj : j < ns.length := by omega
    have hp' := s'.g hp
    have hno : (j : Int) ∉ ns.take i := by
      intro hm
      obtain ⟨k, hk, e⟩ := List.mem_iff_getElem.mp hm
      rw [List.getElem_take] at e
      rw [List.length_take] at hk
      have := nd_ix ho.nd (i := k) (j := i) (x := (j : Int)) (by rw [List.getElem?_eq_getElem (by omega), e]) hx
      omega
    tm_at "go"
    refine ⟨_, _, _, _, rfl, kn_int _, ?_⟩
    tm_at "go"
    refine ifF ?_ ?_
    · show (!(decide (0 ≤ (j : Int)) && decide ((j : Int) ≤ ((ns.map V.int).length : Nat) - 1))) = false
      rw [hlen, decide_eq_true (by omega), decide_eq_true (by omega)]; rfl
    tm_at "go"
    refine ⟨l, _, _, _, rfl, rfl, SqL.of hl', at_of (j := j) rfl (by rw [List.getElem?_map, marks_get hj]; rfl), ?_⟩
    tm_at "go"
    refine ifF (decide_eq_false hno) ?_
    tm_at "go"
    refine ⟨l, _, _, j, rfl, rfl, hl', ix_ok (by omega) (by simp [marks]; exact hj), ?_⟩
    refine ⟨_, rfl, s'.mut nl1, ?_⟩
    rw [upd_same, ← marks_set hx, List.map_set]
  · rintro σ H' ⟨v, rfl, s', hl'⟩
    exact q _ s'


end
section
variable {P : Program} {w : World} {K : PySem.W.Frag} {mg : Str → Option Value} {base : Heap}

def sp_needorder (K : PySem.W.Frag) : Sp := fun vs H Q _ => ∃ (p : Addr) (b : Bool) (ns : List Int), vs = [.ref p] ∧ H p = some (sq b (ns.map V.int)) ∧ Ord ns ∧ ns.length ≤ 60 ∧ ∀ H', Same H H' → Q .non H'
theorem ok_need_order (T : Txt K mg) : FnOk P w K mg base CX0 4 T.f_need_order T.d_need_order ["thing"] (sp_needorder K) := by
  refine T.F_need_order.ok sc_need_order (fun vs H Q E h => ?_) (fun cdv A outer s H vs Q E hr h => ?_)
  · obtain ⟨p, b, ns, rfl, hp, ho, hl, q⟩ := h; rfl
  obtain ⟨p, b, ns, rfl, hp, ho, hl, q⟩ := h
  refine ⟨_, (pss_one (ps_if (pt_not (pt_val (pe_call (ok_is_order T) (hr.mono (by decide)) rfl T.g_is_order T.k_is_order T.b_is_order .nil pass0 (pa_cons (pv 0) pa_nil)))) (pss_one ps_never) pss_nil)), ?_⟩
  tm_at "go"
  refine ⟨p, b, ns, rfl, hp, ho, hl, fun H1 s1 => ?_⟩
  tm_at "go"
  exact q _ s1
/-- a row laid by an order -/
def lay (rs : List V) (ns : List Int) : List V := ns.map (fun n => rs.getD n.toNat .non)
def sp_laid (K : PySem.W.Frag) : Sp := fun vs H Q _ => ∃ (r p : Addr) (c b : Bool) (rs : List V) (ns : List Int), vs = [.ref r, .ref p] ∧ H r = some (sq c rs) ∧ H p = some (sq b (ns.map V.int)) ∧ Ord ns ∧ ns.length ≤ 60 ∧ rs.length = ns.length ∧
  ∀ H' t, Same H H' → H t = none → H' t = some (.lst (lay rs ns)) → Q (.ref t) H'
theorem ok_laid (T : Txt K mg) : FnOk P w K mg base CX0 4 T.f_laid T.d_laid ["row", "order"] (sp_laid K) := by
  refine T.F_laid.ok sc_laid (fun vs H Q E h => ?_) (fun cdv A outer s H vs Q E hr h => ?_)
  · obtain ⟨r, p, c, b, rs, ns, rfl, hr0, hp, ho, hl, hrl, q⟩ := h; rfl
  obtain ⟨r, p, c, b, rs, ns, rfl, hr0, hp, ho, hl, hrl, q⟩ := h
  refine ⟨_, (pss_cons (ps_if (PW.pt (pw_or (pt_not (pt_val (pe_call (ok_is_order T) (hr.mono (by decide)) rfl T.g_is_order T.k_is_order T.b_is_order .nil pass0 (pa_cons (pv 1) pa_nil)))) (pw_or1 (pt_cmpR op_ne (pe_callB call_len_seq (by rfl) T.n_len (by decide +kernel) (pa_cons (pv 1) pa_nil)) (pe_callB call_len_seq (by rfl) T.n_len (by decide +kernel) (pa_cons (pv 0) pa_nil)) (nomark _))))) (pss_one ps_never) pss_nil)
      (pss_one (ps_ret (pe_lc (own := [("place", 2)]) (g := gName 2) (tt := tYes) rfl sc_laid.nd (pi_seq (pv 1)) (blkOk_by (own := [("place", 2)]) (N := ["row", "order", "place"]) (sc := defScope s_laid) (by decide +kernel)) (fun _ _ _ _ _ => (pg_name (i := 2) sc_laid.nd rfl (Or.inl rfl))) (fun _ _ _ _ _ => pts_nil) (fun _ _ _ _ _ => (pe_ix (show IxR _ (rIx K) from ix_seq) (pv 0) (pv 2) (fun _ _ => rfl))))))), ?_⟩
  have hlen : (ns.map V.int).length = ns.length := List.length_map ..
  tm_at "go"
  refine ⟨p, b, ns, rfl, hp, ho, hl, fun H1 s1 => ?_⟩
  have hp1 := s1.g hp
  have hr1 := s1.g hr0
  tm_at "go"
  refine ifF (by rw [hlen, hrl]; simp) ?_
  refine ⟨_, rfl, p, b, _, rfl, hp1, ?_⟩
  refine lcP (b := b) (e := V.int) (as := ns) (fun _ => true) (fun n => rs.getD n.toNat .non) hp1 (by omega) (fun _ => rfl) (fun x H' _ _ R k => k _ (Same.refl _)) (fun x H' hx _ s' R k => ?_) (fun D H2 nD s2 hD => ?_)
  · have hb := ho.bd x hx
    obtain ⟨v, hv, _⟩ := get_of (l := rs) (i := x.toNat) (by omega)
    have ev : rs.getD x.toNat .non = v := by rw [List.getD_eq_getElem?_getD, hv]; rfl
    rw [ev] at k
    tm_at "go"
    exact ix_sq (s'.g hr1) (at_of (j := x.toNat) (by omega) hv) (k _ (Same.refl _))
  rw [filter_yes] at hD
  exact q _ D (s1.trans s2) (s1.free nD) hD
/-- where each stands, as far as the first i are met -/
def invAt (ns : List Int) (i : Nat) : List Int := (List.range ns.length).map (fun j : Nat => if (j : Int) ∈ ns.take i then (ns.idxOf (j : Int) : Int) else 0)
def inv (ns : List Int) : List Int := (List.range ns.length).map (fun j : Nat => (ns.idxOf (j : Int) : Int))
theorem invAt_get {ns : List Int} {i j : Nat} (h : j < ns.length) : (invAt ns i)[j]? = some (if (j : Int) ∈ ns.take i then (ns.idxOf (j : Int) : Int) else 0) := by
  unfold invAt; rw [List.getElem?_map, List.getElem?_range h]; rfl
theorem invAt_len (ns : List Int) (i : Nat) : (invAt ns i).length = ns.length := by simp [invAt]
theorem idx_at {ns : List Int} (nd : ns.Nodup) {i : Nat} {x : Int} (h : ns[i]? = some x) : ns.idxOf x = i := by
  have hm := List.mem_of_getElem? h
  have h1 : ns.idxOf x < ns.length := List.idxOf_lt_length_iff.mpr hm
  have h2 : ns[ns.idxOf x]? = some x := by rw [List.getElem?_eq_getElem h1, List.getElem_idxOf]
  exact nd_ix nd h2 h
theorem invAt_set {ns : List Int} (nd : ns.Nodup) {i j : Nat} (hx : ns[i]? = some (j : Int)) : (invAt ns i).set j (i : Int) = invAt ns (i + 1) := by
  apply List.ext_getElem?
  intro k
  rw [List.getElem?_set]
  by_cases hk : k < ns.length
  · rw [invAt_get hk, invAt_get hk, take_more hx]
    by_cases e : j = k
    · subst e
      rw [if_pos rfl, if_pos (by rw [invAt_len]; exact hk), if_pos (by simp), idx_at nd hx]
    · rw [if_neg e]
      have : ¬ (k : Int) = (j : Int) := by omega
      simp [this]
  · rw [List.getElem?_eq_none_iff.mpr (by rw [invAt_len]; omega), List.getElem?_eq_none_iff.mpr (by rw [invAt_len]; omega)]
    split
    · rename_i e
      subst e
      rw [if_neg (by rw [invAt_len]; omega)]
    · rfl
theorem invAt_all {ns : List Int} (h : Ord ns) : invAt ns ns.length = inv ns := by
  unfold invAt inv
  apply List.map_congr_left
  intro j hj
  rw [List.take_length, if_pos (h.all (List.mem_range.mp hj))]
theorem invAt_zero (ns : List Int) : invAt ns 0 = List.replicate ns.length 0 := by
  apply List.ext_getElem?
  intro j
  by_cases hj : j < ns.length
  · rw [invAt_get hj, List.getElem?_replicate, if_pos hj]; simp
  · rw [List.getElem?_eq_none_iff.mpr (by rw [invAt_len]; omega), List.getElem?_eq_none_iff.mpr (by simp; omega)]
def sp_turned (K : PySem.W.Frag) : Sp := fun vs H Q _ => ∃ (p : Addr) (b : Bool) (ns : List Int), vs = [.ref p] ∧ H p = some (sq b (ns.map V.int)) ∧ Ord ns ∧ ns.length ≤ 60 ∧ ∀ H' t, Same H H' → H' t = some (.tup ((inv ns).map V.int)) → Q (.ref t) H'
theorem ok_turned_order (T : Txt K mg) : FnOk P w K mg base CX0 5 T.f_turned_order T.d_turned_order ["order"] (sp_turned K) := by
  refine T.F_turned_order.ok sc_turned_order (fun vs H Q E h => ?_) (fun cdv A outer s H vs Q E hr h => ?_)
  · obtain ⟨p, b, ns, rfl, hp, ho, hl, q⟩ := h; rfl
  obtain ⟨p, b, ns, rfl, hp, ho, hl, q⟩ := h
  refine ⟨_, (pss_cons (ps_expr (pe_call (ok_need_order T) (hr.mono (by decide)) rfl T.g_need_order T.k_need_order T.b_need_order .nil pass0 (pa_cons (pv 0) pa_nil)))
      (pss_cons (ps_set (i := 1) sc_turned_order.nd rfl (Or.inl rfl) (pe_op op_rep (pe_lst (pa_cons pe_int pa_nil)) (pe_callB call_len_seq (by rfl) T.n_len (by decide +kernel) (pa_cons (pv 0) pa_nil))))
      (pss_cons (ps_for PassesOwn.never rfl (pi_enumS (by rfl) T.n_enumerate (pa_cons (pv 0) pa_nil)) (pg_tup (by rfl) (pgs_cons (pg_name (i := 2) sc_turned_order.nd rfl (Or.inl rfl)) (pgs_cons (pg_name (i := 3) sc_turned_order.nd rfl (Or.inl rfl)) pgs_nil)))
      (pss_one (ps_asg (pv 2) (pg_sub (pv 1) (pv 3) set_list))))
      (pss_one (ps_ret (pe_callTy call_tuple_of (by rfl) T.n_tuple (by decide +kernel) (pa_cons (pv 1) pa_nil))))))), ?_⟩
  have hlen : (ns.map V.int).length = ns.length := List.length_map ..
  tm_at "go"
  refine ⟨p, b, ns, rfl, hp, ho, hl, fun H1 s1 => ?_⟩
  have hp1 := s1.g hp
  refine ⟨Nat.le_of_ble_eq_true rfl, fun l0 nl0 => ?_⟩
  have s2 := s1.mk (o := .lst [.int 0]) nl0
  have hp2 := ((Same.refl H1).mk (o := .lst [.int 0]) nl0).g hp1
  tm_at "go"
  refine ⟨l0, _, _, rfl, rfl, upd_same, by omega, by rw [hlen]; omega, ?_, fun l nl => ?_⟩
  · rw [hlen]
    show 1 * (ns.length : Int).toNat ≤ sizeLine
    exact Nat.le_trans (show 1 * (ns.length : Int).toNat ≤ 60 by omega) (by decide)
  have eflat : (List.replicate ((((ns.map V.int).length : Nat) : Int)).toNat [V.int 0]).flatten = (invAt ns 0).map V.int := by
    rw [List.flatten_replicate_singleton, invAt_zero, List.map_replicate, hlen]; rfl
  rw [eflat]
  have nl1 := s2.free nl
  refine ⟨_, rfl, p, b, _, rfl, (by tm_at "hp"), for_enum (b := b) (xs := ns.map V.int) (fun i σ H' => ∃ v v', σ = [some (.ref p), some (.ref l), v, v'] ∧ Same H H' ∧ H' l = some (.lst ((invAt ns i).map V.int))) ⟨none, none, rfl, s2.mk nl, upd_same⟩ (fun i σ H' ⟨_, _, _, s', _⟩ => s'.g hp) ?_ ?_⟩
  · rintro i y U σ H' hy ⟨v, v', rfl, s', hl'⟩ nU
    obtain ⟨x, hx, rfl⟩ := int_item hy
    have hb := ho.bd x (List.mem_of_getElem? hx)
    obtain ⟨j, rfl⟩ : ∃ j : Nat, x = (j : Int) := ⟨x.toNat, by omega⟩
    have hj : j < ns.length := by omega
    refine ⟨U, _, rfl, SqT.of upd_same, rfl, _, _, rfl, _, _, rfl, rfl, ?_⟩
    have hlU : l ≠ U := ne_nn nU hl'
    tm_at "go"
    refine ⟨l, _, _, j, rfl, rfl, (by tm_at "hp"), ix_ok (by omega) (by rw [List.length_map, invAt_len]; omega), ?_⟩
    refine ⟨_, _, rfl, (s'.mk nU).mut nl1, ?_⟩
    rw [upd_same, ← invAt_set ho.nd hx, List.map_set]
  · rintro σ H' ⟨v, v', rfl, s', hl'⟩
    rw [hlen, invAt_all ho] at hl'
    refine ⟨_, rfl, l, _, rfl, .inl ⟨SqL.of hl', fun t nt => ?_⟩⟩
    exact q _ t (s'.mk nt) upd_same

end
section
variable {P : Program} {w : World} {K : PySem.W.Frag} {mg : Str → Option Value} {base : Heap}

def sp_lorder (K : PySem.W.Frag) : Sp := fun vs H Q _ => ∃ (a : Addr) (n : Nat) (x y z : Int), vs = [.ref a, .int (n : Nat)] ∧ H a = some (wl x y z) ∧ n ≤ 1000 ∧
  ∀ H' t (ns : List Int) x' y' z', ns.Perm (below n) → t ≠ a → H t = none → H' t = some (.lst (ns.map V.int)) → H' a = some (wl x' y' z') → Fr a H H' → Q (.ref t) H'
theorem ok_l_order (T : Txt K mg) : FnOk P w K mg base CX0 2 T.f_l_order T.d_l_order ["_law_well_here", "_law_many_here"] (sp_lorder K) := by
  refine T.F_l_order.ok sc_l_order (fun vs H Q E h => ?_) (fun cdv A outer s H vs Q E hr h => ?_)
  · obtain ⟨a, n, x, y, z, rfl, hw, hn, q⟩ := h; rfl
  obtain ⟨a, n, x, y, z, rfl, hw, hn, q⟩ := h
  refine ⟨_, (pss_cons (ps_set (i := 2) sc_l_order.nd rfl (Or.inl rfl) (pe_listRg rfl (by rfl) T.n_list (prg_1 (by rfl) T.n_range (pv 1))))
      (pss_cons (ps_set (i := 3) sc_l_order.nd rfl (Or.inl rfl) (pe_lst pa_nil))
      (pss_cons (ps_while PassesOwn.never (pt_cmpR (op_neD hr.units) (pv 2) (pe_lst pa_nil) (nomark _))
      (pss_one (ps_expr (pe_bm PySem.F.plainAttrs_list PySem.F.slot_list_append PySem.F.type_list_append mt_append (pv 3) (pa_cons (pe_bm PySem.F.plainAttrs_list PySem.F.slot_list_pop PySem.F.type_list_pop mt_popAt (pv 2) (pa_cons (pe_call (ok_l_draw T) (hr.mono (by decide)) rfl T.g_l_draw T.k_l_draw T.b_l_draw .nil pass0 (pa_cons (pv 0) (pa_cons (pe_callB call_len_seq (by rfl) T.n_len (by decide +kernel) (pa_cons (pv 2) pa_nil)) pa_nil))) pa_nil)) pa_nil)))))
      (pss_one (ps_ret (pv 3)))))), ?_⟩
  tm_at "go"
  refine ⟨⟨by omega, by omega, by omega, by omega, by omega⟩, fun l nl => ?_⟩
  have erg : rgV 0 (n : Int) = (below n).map V.int := rg_ints
  rw [erg]
  have hla : l ≠ a := Ne.symm (ne_nn nl hw)
  have f1 := (Fr.refl a H).mk (o := .lst ((below n).map V.int)) hw nl
  have hw1 : (upd H l (.lst ((below n).map V.int))) a = some (wl x y z) := by tm_at "hp"
  refine ⟨Nat.le_of_ble_eq_true rfl, fun f nf => ?_⟩
  have hfa : f ≠ a := Ne.symm (ne_nn nf hw1)
  have hlf : l ≠ f := ne_nn nf upd_same
  have nf0 := f1.free hw1 nf
  have f2 := f1.mk (o := .lst []) hw1 nf
  refine while_mo (fun σ H' => ∃ (L F : List Int) (x y z : Int), σ = [some (.ref a), some (.int n), some (.ref l), some (.ref f)] ∧ (F ++ L).Perm (below n) ∧ H' l = some (.lst (L.map V.int)) ∧ H' f = some (.lst (F.map V.int)) ∧ H' a = some (wl x y z) ∧ Fr a H H') (fun _ H' => match H' l with | some (.lst xs) => xs.length | _ => 0)
    ⟨below n, [], x, y, z, rfl, .refl _, by tm_at "hp", upd_same, by tm_at "hp", f2⟩ ?_ (by tm_at "mono")
  rintro σ H2 ⟨L, F, x2, y2, z2, rfl, hpm, hl2, hf2, hw2, f3⟩
  have hlen := hpm.length_eq
  rw [List.length_append, below_len] at hlen
  tm_at "go"
  refine ⟨Nat.le_of_ble_eq_true rfl, fun u nu => ?_⟩
  have hul : l ≠ u := ne_nn nu hl2
  have huf : f ≠ u := ne_nn nu hf2
  have hua : a ≠ u := ne_nn nu hw2
  have f4 := f3.mk (o := .lst []) hw2 nu
  refine neI (b := false) (c := false) (ns := L) (ms := []) (by tm_at "hp") upd_same ?_
  tm_at "go"
  cases L with
  | nil =>
    refine ifF (by simp) ?_
    rw [List.append_nil] at hpm
    exact ⟨_, rfl, q _ f F x2 y2 z2 hpm hfa nf0 (by tm_at "hp") (by tm_at "hp") f4⟩
  | cons L0 L1 =>
    refine ifT (by simp) ?_
    generalize hLL : L0 :: L1 = L at *
    have hL : 0 < L.length := by rw [← hLL]; exact Nat.succ_pos _
    tm_at "go"
    refine ⟨_, _, _, _, _, rfl, (by tm_at "hp"), (by rw [List.length_map]; omega), (by rw [List.length_map]; omega), fun r x3 y3 z3 h3 g3 => ?_⟩
    rw [List.length_map] at g3
    obtain ⟨v, hv, _⟩ := get_of (show r.toNat < L.length by omega)
    refine ⟨l, _, r, r.toNat, .int v, rfl, rfl, (by tm_at "hp"), by omega, by omega, seq_ok h3 (by rw [List.length_map]; omega), by rw [List.getElem?_map, hv]; rfl, ?_⟩
    refine ⟨f, _, _, rfl, rfl, (by tm_at "hp"), ?_, ?_⟩
    · rw [List.length_map]; exact Nat.lt_of_le_of_lt (show F.length ≤ 1000 by omega) (by decide)
    refine ⟨⟨L.eraseIdx r.toNat, F ++ [v], x3, y3, z3, rfl, ?_, ?_, ?_, by tm_at "hp", (((f4.trans Fr.put).mut nl).mut nf0)⟩, ?_⟩
    · refine List.Perm.trans ?_ hpm
      rw [List.append_assoc]
      refine List.Perm.append_left F ?_
      obtain ⟨e1, e2⟩ := eraseS hv
      rw [e2]
      conv => rhs; rw [e1]
      show (v :: (L.take r.toNat ++ L.drop (r.toNat + 1))).Perm _
      exact List.perm_middle.symm
    · rw [upd_ne hlf, upd_same, erase_map]
    · rw [upd_same, List.map_append]; rfl
    · rw [upd_ne hlf, upd_same, hl2]
      show ((L.map V.int).eraseIdx r.toNat).length < (L.map V.int).length
      rw [List.length_eraseIdx_of_lt (by rw [List.length_map]; omega), List.length_map]
      omega


/-! ### things of a row -/
def TV (l1 l2 : Addr) (v : V) : Prop := v = .non ∨ v = .bl true ∨ (∃ i, v = .int i) ∨ v = .str "a" ∨ v = .str "" ∨ v = .str "ab" ∨ v = .ref l1 ∨ v = .ref l2
structure Two (H : Hp) (l1 l2 : Addr) : Prop where
  one : H l1 = some (.lst [.int 1, .int 2])
  two : H l2 = some (.tup [])
theorem Two.same {H H' : Hp} {l1 l2 : Addr} (h : Two H l1 l2) (s : Same H H') : Two H' l1 l2 := ⟨s.g h.one, s.g h.two⟩
theorem tv_kn {K : PySem.W.Frag} {H : Hp} {l1 l2 : Addr} {v : V} (w : Two H l1 l2) (h : TV l1 l2 v) : ∃ k, Kn K H v k := by
  rcases h with rfl | rfl | ⟨i, rfl⟩ | rfl | rfl | rfl | rfl | rfl
  · exact ⟨_, kn_non⟩
  · exact ⟨_, kn_bl _⟩
  · exact ⟨_, kn_int _⟩
  · exact ⟨_, kn_str _⟩
  · exact ⟨_, kn_str _⟩
  · exact ⟨_, kn_str _⟩
  · exact ⟨_, kn_lst w.one⟩
  · exact ⟨_, kn_tup w.two⟩
theorem tv_dp {K : PySem.W.Frag} {H : Hp} {l1 l2 : Addr} {v : V} (w : Two H l1 l2) (h : TV l1 l2 v) : ∃ d, Dp K H v d ∧ SeqAt.shaped d = true := by
  rcases h with rfl | rfl | ⟨i, rfl⟩ | rfl | rfl | rfl | rfl | rfl
  · exact ⟨_, .non, rfl⟩
  · exact ⟨_, .bl _, rfl⟩
  · exact ⟨_, .int _, rfl⟩
  · exact ⟨_, .str _, by decide +kernel⟩
  · exact ⟨_, .str _, by decide +kernel⟩
  · exact ⟨_, .str _, by decide +kernel⟩
  · exact ⟨_, .lst (SqL.of w.one) (dpAll_ints [1, 2]), sh_ints false [1, 2]⟩
  · exact ⟨_, .tup (SqT.of w.two) (dpAll_ints []), sh_ints true []⟩
def sp_things (K : PySem.W.Frag) : Sp := fun vs H Q _ => ∃ (a : Addr) (n : Nat) (x y z : Int), vs = [.ref a, .int (n : Nat)] ∧ H a = some (wl x y z) ∧ n ≤ 1000 ∧
  ∀ H' t l1 l2 (rs : List V) x' y' z', rs.length = n → (∀ v ∈ rs, TV l1 l2 v) → Two H' l1 l2 → l1 ≠ a → l2 ≠ a → t ≠ a → H' t = some (.lst rs) → H' a = some (wl x' y' z') → Fr a H H' → Q (.ref t) H'
theorem ok_l_things (T : Txt K mg) : FnOk P w K mg base CX0 2 T.f_l_things T.d_l_things ["_law_well_here", "_law_many_here"] (sp_things K) := by
  refine T.F_l_things.ok sc_l_things (fun vs H Q E h => ?_) (fun cdv A outer s H vs Q E hr h => ?_)
  · obtain ⟨a, n, x, y, z, rfl, hw, hn, q⟩ := h; rfl
  obtain ⟨a, n, x, y, z, rfl, hw, hn, q⟩ := h
  refine ⟨_, (pss_cons (ps_set (i := 2) sc_l_things.nd rfl (Or.inr rfl) (pe_lst (pa_cons pe_non (pa_cons pe_bl (pa_cons pe_int (pa_cons pe_int (pa_cons pe_str (pa_cons pe_str (pa_cons (pe_lst (pa_cons pe_int (pa_cons pe_int pa_nil))) (pa_cons (pe_tup pa_nil) (pa_cons (pe_op op_pow pe_int pe_int) (pa_cons pe_str pa_nil))))))))))))
      (pss_one (ps_ret (pe_lc (own := [("_law_k", 3)]) (g := gName 3) (tt := tYes) rfl sc_l_things.nd (pi_range1 (by rfl) T.n_range (pa_cons (pv 1) pa_nil)) (blkOk_by (own := [("_law_k", 3)]) (N := ["_law_well_here", "_law_many_here", "_law_some", "_law_k"]) (sc := defScope s_l_things) (by decide +kernel)) (fun _ _ _ _ _ => (pg_name (i := 3) sc_l_things.nd rfl (Or.inl rfl))) (fun _ _ _ _ _ => pts_nil) (fun _ _ _ _ _ => (pe_ix (show IxR _ (rIxL K) from ix_list) (pe_lst (pa_cons (pe_ix (show IxR _ (rIxL K) from ix_list) (pv 2) (pe_call (ok_l_draw T) (hr.mono (by decide)) rfl T.g_l_draw T.k_l_draw T.b_l_draw .nil pass0 (pa_cons (pv 0) (pa_cons pe_int pa_nil))) (fun _ _ => rfl)) (pa_cons (pe_op op_add pe_int (pv 3)) pa_nil))) (pe_call (ok_l_draw T) (hr.mono (by decide)) rfl T.g_l_draw T.k_l_draw T.b_l_draw .nil pass0 (pa_cons (pv 0) (pa_cons pe_int pa_nil))) (fun _ _ => rfl))))))), ?_⟩
  tm_at "go"
  refine ⟨Nat.le_of_ble_eq_true rfl, fun l1 n1 => ?_⟩
  have h1a : a ≠ l1 := ne_nn n1 hw
  have hw1 : (upd H l1 (.lst [.int 1, .int 2])) a = some (wl x y z) := by tm_at "hp"
  have f1 := (Fr.refl a H).mk (o := .lst [.int 1, .int 2]) hw n1
  tm_at "go"
  refine ⟨Nat.le_of_ble_eq_true rfl, fun l2 n2 => ?_⟩
  have h2a : a ≠ l2 := ne_nn n2 hw1
  have h12 : l1 ≠ l2 := ne_nn n2 upd_same
  have hw2 : (upd (upd H l1 (.lst [.int 1, .int 2])) l2 (.tup [])) a = some (wl x y z) := by tm_at "hp"
  have f2 := f1.mk (o := .tup []) hw1 n2
  have tw2 : Two (upd (upd H l1 (.lst [.int 1, .int 2])) l2 (.tup [])) l1 l2 := ⟨by tm_at "hp", upd_same⟩
  tm_at "go"
  refine ⟨Nat.le_of_ble_eq_true rfl, fun so nso => ?_⟩
  have hsa : a ≠ so := ne_nn nso hw2
  have f3 := f2.mk (o := .lst [.non, .bl true, .int 0, .int 1, .str "a", .str "", .ref l1, .ref l2, .int (10 ^ (20 : Int).toNat), .str "ab"]) hw2 nso
  have tw3 := tw2.same ((Same.refl _).mk (o := .lst [.non, .bl true, .int 0, .int 1, .str "a", .str "", .ref l1, .ref l2, .int (10 ^ (20 : Int).toNat), .str "ab"]) nso)
  have hw3 : (upd (upd (upd H l1 (.lst [.int 1, .int 2])) l2 (.tup [])) so (.lst [.non, .bl true, .int 0, .int 1, .str "a", .str "", .ref l1, .ref l2, .int (10 ^ (20 : Int).toNat), .str "ab"])) a = some (wl x y z) := by tm_at "hp"
  refine ⟨_, rfl, _, rfl, by omega, by omega, ?_⟩
  refine lcRF (a := a) (fun _ v => TV l1 l2 v) hw3 (by omega) (fun _ => rfl) (fun k H' x1 y1 z1 hk hw' f' R r => ?_) (fun D H' ys x1 y1 z1 nD hDa hl hP hw' f' hd => ?_)
  · have hso := f'.g (Ne.symm hsa) upd_same
    tm_at "go"
    refine ⟨_, _, _, _, _, rfl, hw', (by decide), (by decide), fun r1 x2 y2 z2 h2 g2 => ?_⟩
    have hso2 : (upd H' a (wl x2 y2 z2)) so = some (.lst [.non, .bl true, .int 0, .int 1, .str "a", .str "", .ref l1, .ref l2, .int (10 ^ (20 : Int).toNat), .str "ab"]) := by
      rw [upd_ne (Ne.symm hsa)]; exact hso
    have pick : ∀ v, TV l1 l2 v → ∀ u, upd H' a (wl x2 y2 z2) u = none → ∀ r2 x3 y3 z3, 0 ≤ r2 → r2 < 2 → rIxL K (.ref u) (.int r2) (upd (upd (upd H' a (wl x2 y2 z2)) u (.lst [v, .int (100 + (0 + (k : Int)))])) a (wl x3 y3 z3)) R := by
      intro v hv u nu r2 x3 y3 z3 h3 g3
      have hua : a ≠ u := ne_nn nu upd_same
      have f4 := ((Fr.put (a := a) (H := H') (o := wl x2 y2 z2)).mk (o := .lst [v, .int (100 + (0 + (k : Int)))]) upd_same nu).trans (Fr.put (o := wl x3 y3 z3))
      have cs : r2 = 0 ∨ r2 = 1 := by omega
      rcases cs with rfl | rfl
      · exact ⟨u, _, _, _, rfl, rfl, SqL.of (by tm_at "hp"), rfl, r _ _ x3 y3 z3 hv upd_same f4⟩
      · exact ⟨u, _, _, _, rfl, rfl, SqL.of (by tm_at "hp"), rfl, r _ _ x3 y3 z3 (.inr (.inr (.inl ⟨_, rfl⟩))) upd_same f4⟩
    have cs : r1 = 0 ∨ r1 = 1 ∨ r1 = 2 ∨ r1 = 3 ∨ r1 = 4 ∨ r1 = 5 ∨ r1 = 6 ∨ r1 = 7 ∨ r1 = 8 ∨ r1 = 9 := by omega
    rcases cs with rfl | rfl | rfl | rfl | rfl | rfl | rfl | rfl | rfl | rfl
    all_goals
      refine ⟨so, _, _, _, rfl, rfl, SqL.of hso2, rfl, ?_⟩
      tm_at "go"
      refine ⟨Nat.le_of_ble_eq_true rfl, fun u nu => ?_⟩
      tm_at "go"
      refine ⟨_, _, _, _, _, rfl, (by rw [upd_ne (ne_nn nu upd_same)]; exact upd_same), (by decide), (by decide), fun r2 x3 y3 z3 h3 g3 => ?_⟩
      refine pick _ ?_ u nu r2 x3 y3 z3 h3 g3
      unfold TV
      simp
  · refine q H' D l1 l2 ys x1 y1 z1 (by omega) (fun v hv => ?_) ⟨f'.g (Ne.symm h1a) tw3.one, f'.g (Ne.symm h2a) tw3.two⟩ (Ne.symm h1a) (Ne.symm h2a) hDa hd hw' (f3.trans f')
    obtain ⟨k, hk, e⟩ := List.mem_iff_getElem.mp hv
    exact hP k v (by rw [List.getElem?_eq_getElem hk, e])
def sp_llaid (K : PySem.W.Frag) : Sp := fun vs H Q _ => ∃ (r p : Addr) (rs : List V) (ns : List Int), vs = [.ref r, .ref p] ∧ H r = some (.lst rs) ∧ H p = some (.lst (ns.map V.int)) ∧ Ord ns ∧ ns.length ≤ 60 ∧ rs.length = ns.length ∧
  ∀ H' t, Same H H' → H' t = some (.lst (lay rs ns)) → Q (.ref t) H'
theorem ok_l_laid (T : Txt K mg) : FnOk P w K mg base CX0 1 T.f_l_laid T.d_l_laid ["_law_row", "_law_order_here"] (sp_llaid K) := by
  refine T.F_l_laid.ok sc_l_laid (fun vs H Q E h => ?_) (fun cdv A outer s H vs Q E hr h => ?_)
  · obtain ⟨r, p, rs, ns, rfl, hr0, hp, ho, hl, hrl, q⟩ := h; rfl
  obtain ⟨r, p, rs, ns, rfl, hr0, hp, ho, hl, hrl, q⟩ := h
  refine ⟨_, (pss_cons (ps_set (i := 2) sc_l_laid.nd rfl (Or.inl rfl) (pe_lst pa_nil))
      (pss_cons (ps_for PassesOwn.never rfl (pi_list (pv 1)) (pg_name (i := 3) sc_l_laid.nd rfl (Or.inl rfl))
      (pss_one (ps_expr (pe_bm PySem.F.plainAttrs_list PySem.F.slot_list_append PySem.F.type_list_append mt_append (pv 2) (pa_cons (pe_ix ix_list (pv 0) (pv 3) (fun _ _ => rfl)) pa_nil)))))
      (pss_one (ps_ret (pv 2))))), ?_⟩
  refine ⟨Nat.le_of_ble_eq_true rfl, fun t nt => ?_⟩
  have s1 := (Same.refl H).mk (o := .lst []) nt
  refine ⟨_, rfl, p, rfl, ⟨_, SqL.of (s1.g hp)⟩, for_list (K := K) (a := p) (xs := ns.map V.int) (fun i σ H' => ∃ v, σ = [some (.ref r), some (.ref p), some (.ref t), v] ∧ Same H H' ∧ H' t = some (.lst (lay rs (ns.take i)))) ⟨none, rfl, s1, upd_same⟩ (fun i σ H' _ ⟨_, _, s', _⟩ => SqL.of (s'.g hp)) ?_ ?_⟩
  · rintro i y σ H' hy ⟨v, rfl, s', ht⟩
    obtain ⟨x, hx, rfl⟩ := int_item hy
    have hb := ho.bd x (List.mem_of_getElem? hx)
    obtain ⟨w, hw, _⟩ := get_of (l := rs) (i := x.toNat) (by omega)
    have ew : rs.getD x.toNat .non = w := by rw [List.getD_eq_getElem?_getD, hw]; rfl
    have hi := get_lt hx
    tm_at "go"
    refine ⟨r, _, _, _, rfl, rfl, SqL.of (s'.g hr0), at_of (j := x.toNat) (by omega) hw, ?_⟩
    refine ⟨t, _, _, rfl, rfl, ht, ?_, ?_⟩
    · unfold lay; rw [List.length_map, List.length_take]; exact Nat.lt_of_le_of_lt (show min i ns.length ≤ 60 by omega) (by decide)
    refine ⟨_, rfl, s'.mut nt, ?_⟩
    rw [upd_same, take_more hx]
    unfold lay
    rw [List.map_append]
    show some (HO.lst (_ ++ [w])) = some (HO.lst (_ ++ [rs.getD x.toNat .non]))
    rw [ew]
  · rintro σ H' ⟨v, rfl, s', ht⟩
    rw [List.length_map, List.take_length] at ht
    exact ⟨_, rfl, q _ t s' ht⟩
def sp_alike (K : PySem.W.Frag) : Sp := fun vs H Q _ => ∃ (p d l1 l2 : Addr) (rs : List V), vs = [.ref p, .ref d] ∧ H p = some (.lst rs) ∧ H d = some (.lst rs) ∧ rs.length ≤ 1000 ∧ (∀ v ∈ rs, TV l1 l2 v) ∧ Two H l1 l2 ∧ ∀ H', Same H H' → Q (.bl true) H'
theorem ok_l_alike (T : Txt K mg) : FnOk P w K mg base CX0 1 T.f_l_alike T.d_l_alike ["_law_found", "_law_due"] (sp_alike K) := by
  refine T.F_l_alike.ok sc_l_alike (fun vs H Q E h => ?_) (fun cdv A outer s H vs Q E hr h => ?_)
  · obtain ⟨p, d, l1, l2, rs, rfl, hp, hd, hl, hv, tw, q⟩ := h; rfl
  obtain ⟨p, d, l1, l2, rs, rfl, hp, hd, hl, hv, tw, q⟩ := h
  refine ⟨_, (pss_cons (ps_if (PW.pt (pw_or (pt_not (pt_val (pe_callB call_isi (by rfl) T.n_isinstance (by decide +kernel) (pa_cons (pv 0) (pa_cons (pe_bltn (v := .ty "list") (by rfl) T.n_list (by decide +kernel) rfl) pa_nil))))) (pw_or1 (pt_cmpR op_ne (pe_callB call_len_seq (by rfl) T.n_len (by decide +kernel) (pa_cons (pv 0) pa_nil)) (pe_callB call_len_seq (by rfl) T.n_len (by decide +kernel) (pa_cons (pv 1) pa_nil)) (nomark _))))) (pss_one (ps_ret pe_bl)) pss_nil)
      (pss_one (ps_ret (pe_callB (cr_all rfl) (by rfl) T.n_all (by decide +kernel) (pa_cons (pe_lc (own := [("_law_one", 2), ("_law_other", 3)]) (g := gTup K 2 (gCons (gName 2) (gCons (gName 3) gNil))) (tt := tYes) rfl sc_l_alike.nd (RZ.pi_zipA (by rfl) T.n_zip (pa_cons (pv 0) (pa_cons (pv 1) pa_nil))) (blkOk_by (own := [("_law_one", 2), ("_law_other", 3)]) (N := ["_law_found", "_law_due", "_law_one", "_law_other"]) (sc := defScope s_l_alike) (by decide +kernel)) (fun _ _ _ _ _ => (pg_tup (by rfl) (pgs_cons (pg_name (i := 2) sc_l_alike.nd rfl (Or.inl rfl)) (pgs_cons (pg_name (i := 3) sc_l_alike.nd rfl (Or.inl rfl)) pgs_nil)))) (fun _ _ _ _ _ => pts_nil) (fun _ _ _ _ _ => (pe_and (pe_cmpR op_eq (pe_callB (show CallR _ (.builtin "isinstance") (rIsi K) from call_isi) (by rfl) T.n_isinstance (by decide +kernel) (pa_cons (pv 2) (pa_cons (pe_bltn (v := .ty "bool") (by rfl) T.n_bool (by decide +kernel) rfl) pa_nil))) (pe_callB (show CallR _ (.builtin "isinstance") (rIsi K) from call_isi) (by rfl) T.n_isinstance (by decide +kernel) (pa_cons (pv 3) (pa_cons (pe_bltn (v := .ty "bool") (by rfl) T.n_bool (by decide +kernel) rfl) pa_nil))) (nomark _)) (pe_one (pe_cmpR (show OpR _ (compareOp .Eq) (rEqD K) from (op_eqD hr.units)) (pv 2) (pv 3) (nomark _)))))) pa_nil))))), ?_⟩
  tm_at "go"
  refine ⟨_, _, _, _, _, rfl, ClsV.ty _, kn_lst hp, kit_ty (kb_list _), ?_⟩
  tm_at "go"
  refine ifF (by simp) ?_
  refine ⟨_, rfl, _, rfl, p, d, rs, rs, rfl, .inl ⟨SqL.of hp, SqL.of hd, ?_⟩⟩
  refine lcZ (fun _ _ => .bl true) hp hd rfl (by omega) (fun _ _ => rfl) (fun k x y H' hx hy s' R r => ?_) (fun D H' nD s' hD => ?_)
  · rw [hx] at hy
    cases hy
    have hm := List.mem_of_getElem? hx
    obtain ⟨kd, hk⟩ := tv_kn (K := K) (tw.same s') (hv x hm)
    obtain ⟨dd, h1, h2⟩ := tv_dp (K := K) (tw.same s') (hv x hm)
    refine ⟨_, rfl, _, _, _, _, _, rfl, ClsV.ty _, hk, kit_ty (kb_bool kd), ?_⟩
    refine ⟨_, rfl, _, _, _, _, _, rfl, ClsV.ty _, hk, kit_ty (kb_bool kd), ?_⟩
    refine ⟨rfl, _, rfl, ?_⟩
    refine ifT (by simp) ?_
    refine ⟨_, rfl, _, rfl, dd, dd, h1, h1, h2, h2, ?_⟩
    rw [SeqAt.eqv_refl dd (SeqAt.canLay_of_shaped h2)]
    exact r _ (Same.refl _)
  · have hD2 : H' D = some (.lst (((rs.zip rs).map fun _ => true).map V.bl)) := by rw [hD, List.map_map]; rfl
    refine ⟨D, _, rfl, SqL.of hD2, ?_⟩
    rw [all_yes]
    exact q _ s'

end
section
variable {P : Program} {w : World} {K : PySem.W.Frag} {mg : Str → Option Value} {base : Heap}
/-! ### an order and the one that undoes it -/
theorem inv_len (ns : List Int) : (inv ns).length = ns.length := by simp [inv]
theorem inv_get {ns : List Int} {j : Nat} (h : j < ns.length) : (inv ns)[j]? = some (ns.idxOf (j : Int) : Int) := by
  unfold inv; rw [List.getElem?_map, List.getElem?_range h]; rfl
theorem idx_get {ns : List Int} {x : Int} (h : x ∈ ns) : ns[ns.idxOf x]? = some x := by
  rw [List.getElem?_eq_getElem (List.idxOf_lt_length_iff.mpr h), List.getElem_idxOf]
theorem inv_ord {ns : List Int} (h : Ord ns) : Ord (inv ns) := by
  refine ⟨?_, fun x hx => ?_⟩
  · unfold inv
    rw [List.Nodup, List.pairwise_map]
    refine List.Pairwise.imp_of_mem ?_ (List.pairwise_lt_range (n := ns.length))
    intro a b ha hb hab e
    have ea := idx_get (h.all (List.mem_range.mp ha))
    have eb := idx_get (h.all (List.mem_range.mp hb))
    have : ns.idxOf (a : Int) = ns.idxOf (b : Int) := by omega
    rw [this, eb] at ea
    have := Option.some.inj ea
    omega
  · unfold inv at hx
    obtain ⟨j, hj, rfl⟩ := List.mem_map.mp hx
    have := List.idxOf_lt_length_iff.mpr (h.all (List.mem_range.mp hj))
    rw [inv_len]; omega
theorem inv_inv {ns : List Int} (h : Ord ns) : inv (inv ns) = ns := by
  apply List.ext_getElem?
  intro i
  by_cases hi : i < ns.length
  · obtain ⟨x, hx, hm⟩ := get_of hi
    have hb := h.bd x hm
    obtain ⟨j, rfl⟩ : ∃ j : Nat, x = (j : Int) := ⟨x.toNat, by omega⟩
    rw [inv_get (by rw [inv_len]; exact hi), hx]
    have e : (inv ns)[j]? = some (i : Int) := by rw [inv_get (by omega), idx_at h.nd hx]
    rw [idx_at (inv_ord h).nd e]
  · rw [List.getElem?_eq_none_iff.mpr (by rw [inv_len, inv_len]; omega), List.getElem?_eq_none_iff.mpr (by omega)]
theorem lay_len (rs : List V) (ns : List Int) : (lay rs ns).length = ns.length := by simp [lay]
theorem lay_get {rs : List V} {ns : List Int} {i : Nat} {x : Int} (h : ns[i]? = some x) : (lay rs ns)[i]? = some (rs.getD x.toNat .non) := by
  unfold lay; rw [List.getElem?_map, h]; rfl
theorem lay_inv {rs : List V} {ns : List Int} (h : Ord ns) (hl : rs.length = ns.length) : lay (lay rs ns) (inv ns) = rs := by
  apply List.ext_getElem?
  intro j
  by_cases hj : j < ns.length
  · have hm := idx_get (h.all hj)
    have h1 := lay_get (rs := rs) hm
    have h2 := lay_get (rs := lay rs ns) (inv_get hj)
    rw [h2, Int.toNat_natCast, List.getD_eq_getElem?_getD, h1, Int.toNat_natCast]
    obtain ⟨v, hv, _⟩ := get_of (l := rs) (i := j) (by omega)
    rw [List.getD_eq_getElem?_getD, hv]; rfl
  · rw [List.getElem?_eq_none_iff.mpr (by rw [lay_len, inv_len]; omega), List.getElem?_eq_none_iff.mpr (by omega)]
theorem lay_inv2 {rs : List V} {ns : List Int} (h : Ord ns) (hl : rs.length = ns.length) : lay (lay rs (inv ns)) ns = rs := by
  have := lay_inv (rs := rs) (inv_ord h) (by rw [inv_len]; exact hl)
  rw [inv_inv h] at this
  exact this
theorem lay_tv {l1 l2 : Addr} {rs : List V} {ns : List Int} (h : Ord ns) (hl : rs.length = ns.length) (hv : ∀ v ∈ rs, TV l1 l2 v) : ∀ v ∈ lay rs ns, TV l1 l2 v := by
  intro v hm
  unfold lay at hm
  obtain ⟨x, hx, rfl⟩ := List.mem_map.mp hm
  have hb := h.bd x hx
  obtain ⟨w, hw, hmw⟩ := get_of (l := rs) (i := x.toNat) (by omega)
  rw [List.getD_eq_getElem?_getD, hw]
  exact hv w hmw
theorem mt_ix {K : PySem.W.Frag} {H : Hp} {a : Addr} {ns : List Int} {x : Int} {Q : VK} (nd : ns.Nodup) (h : H a = some (.lst (ns.map V.int))) (hx : x ∈ ns) (q : Q (.int (ns.idxOf x : Nat)) H) : rIndex K (.ref a) [.int x] H Q := by
  have hi := idx_get hx
  refine ⟨a, ns.map V.int, .int x, ns.idxOf x, .int x, rfl, rfl, SqL.of h, rfl, ?_, by rw [List.getElem?_map, hi]; rfl, ?_, ?_, q⟩
  · rw [List.all_eq_true]
    intro v hv
    obtain ⟨n, _, rfl⟩ := List.mem_map.mp hv
    rfl
  · show (x == x) = true
    simp
  · intro m z hm hz
    obtain ⟨n, hn, rfl⟩ := int_item hz
    show (n == x) = false
    rw [beq_eq_false_iff_ne]
    intro e
    rw [e] at hn
    have := idx_at nd hn
    omega
/-! ### the law -/
def sp_law (K : PySem.W.Frag) : Sp := fun vs H Q _ => ∃ (a : Addr) (ns : List Int), vs = [.ref a] ∧ SqL K H a (ns.map V.int) ∧ ns.length ≤ 63 ∧ ∀ H', Q (.bl true) H'
theorem ok_law (T : Txt K mg) : FnOk P w K mg base CX0 6 T.f_law T.d_law ["_law_script"] (sp_law K) := by
  refine T.F_law.ok sc_law (fun vs H Q E h => ?_) (fun cdv A outer s H vs Q E hr h => ?_)
  · obtain ⟨a, sc, rfl, hS, hl63, q⟩ := h; rfl
  obtain ⟨a, sc, rfl, hS, hl63, q⟩ := h
  refine ⟨_, (pss_cons (ps_for PassesOwn.never rfl (pi_range1 (by rfl) T.n_range (pa_cons (pe_callB (call_max2 rfl) (by rfl) T.n_max (by decide +kernel) (pa_cons pe_int (pa_cons (pe_callB (call_min2 rfl) (by rfl) T.n_min (by decide +kernel) (pa_cons (pe_callB call_len_seq (by rfl) T.n_len (by decide +kernel) (pa_cons (pv 0) pa_nil)) (pa_cons pe_int pa_nil))) pa_nil))) pa_nil)) (pg_name (i := 1) sc_law.nd rfl (Or.inl rfl))
      (pss_cons (ps_set (i := 2) sc_law.nd rfl (Or.inl rfl) (pe_call (ok_l_well T) (hr.mono (by decide)) rfl T.g_l_well T.k_l_well T.b_l_well .nil pass0 (pa_cons (pe_call (ok_l_cell T) (hr.mono (by decide)) rfl T.g_l_cell T.k_l_cell T.b_l_cell .nil pass0 (pa_cons (pv 0) (pa_cons (pv 1) pa_nil))) pa_nil)))
      (C8.pss_cut (ps_set (i := 3) sc_law.nd rfl (Or.inl rfl) (pe_call (ok_l_many T) (hr.mono (by decide)) rfl T.g_l_many T.k_l_many T.b_l_many .nil pass0 (pa_cons (pv 2) (pa_cons pe_int pa_nil))))
      (C8.pss_cut (ps_set (i := 4) sc_law.nd rfl (Or.inl rfl) (pe_call (ok_l_things T) (hr.mono (by decide)) rfl T.g_l_things T.k_l_things T.b_l_things .nil pass0 (pa_cons (pv 2) (pa_cons (pv 3) pa_nil))))
      (C8.pss_cut (ps_set (i := 5) sc_law.nd rfl (Or.inr rfl) (pe_call (ok_l_order T) (hr.mono (by decide)) rfl T.g_l_order T.k_l_order T.b_l_order .nil pass0 (pa_cons (pv 2) (pa_cons (pv 3) pa_nil))))
      (C8.pss_cut (ps_set (i := 6) sc_law.nd rfl (Or.inl rfl) (pe_ix ix_list (pe_lst (pa_cons (pe_callTy call_list_of (by rfl) T.n_list (by decide +kernel) (pa_cons (pv 5) pa_nil)) (pa_cons (pe_callTy call_tuple_of (by rfl) T.n_tuple (by decide +kernel) (pa_cons (pv 5) pa_nil)) pa_nil))) (pe_call (ok_l_draw T) (hr.mono (by decide)) rfl T.g_l_draw T.k_l_draw T.b_l_draw .nil pass0 (pa_cons (pv 2) (pa_cons pe_int pa_nil))) (fun _ _ => rfl)))
      (C8.pss_cut (ps_set (i := 7) sc_law.nd rfl (Or.inl rfl) (pe_call (ok_laid T) (hr.mono (by decide)) rfl T.g_laid T.k_laid T.b_laid .nil pass0 (pa_cons (pe_ix ix_list (pe_lst (pa_cons (pe_callTy call_list_of (by rfl) T.n_list (by decide +kernel) (pa_cons (pv 4) pa_nil)) (pa_cons (pe_callTy call_tuple_of (by rfl) T.n_tuple (by decide +kernel) (pa_cons (pv 4) pa_nil)) pa_nil))) (pe_call (ok_l_draw T) (hr.mono (by decide)) rfl T.g_l_draw T.k_l_draw T.b_l_draw .nil pass0 (pa_cons (pv 2) (pa_cons pe_int pa_nil))) (fun _ _ => rfl)) (pa_cons (pv 6) pa_nil))))
      (C8.pss_cut (ps_if (PW.pt (pw_or (pt_not (pt_val (pe_call (ok_l_alike T) (hr.mono (by decide)) rfl T.g_l_alike T.k_l_alike T.b_l_alike .nil pass0 (pa_cons (pv 7) (pa_cons (pe_call (ok_l_laid T) (hr.mono (by decide)) rfl T.g_l_laid T.k_l_laid T.b_l_laid .nil pass0 (pa_cons (pv 4) (pa_cons (pv 5) pa_nil))) pa_nil))))) (pw_or (pt_cmpR (op_neD hr.units) (pe_callTy call_list_of (by rfl) T.n_list (by decide +kernel) (pa_cons (pv 6) pa_nil)) (pv 5) (nomark _)) (pw_or1 (pt_cmpR op_isnot_bl (pe_call (ok_is_order T) (hr.mono (by decide)) rfl T.g_is_order T.k_is_order T.b_is_order .nil pass0 (pa_cons (pv 6) pa_nil)) pe_bl (nomark _)))))) (pss_one (ps_ret pe_bl)) pss_nil)
      (C8.pss_cut (ps_set (i := 8) sc_law.nd rfl (Or.inl rfl) (pe_call (ok_turned_order T) (hr.mono (by decide)) rfl T.g_turned_order T.k_turned_order T.b_turned_order .nil pass0 (pa_cons (pv 6) pa_nil)))
      (C8.pss_cut (ps_if (pt_not (pt_val (pe_call (ok_l_told T) (hr.mono (by decide)) rfl T.g_l_told T.k_l_told T.b_l_told .nil pass0 (pa_cons (pv 8) (pa_cons (pe_lc (own := [("_law_place", 11)]) (g := gName 11) (tt := tYes) rfl sc_law.nd (pi_range1 (by rfl) T.n_range (pa_cons (pv 3) pa_nil)) (blkOk_by (own := [("_law_place", 11)]) (N := ["_law_script", "_law_k", "_law_well_here", "_law_many_here", "_law_row", "_law_order_here", "_law_handed", "_law_found", "_law_undone", "_law_other", "_law_both", "_law_place"]) (sc := defScope s_law) (by decide +kernel)) (fun _ _ _ _ _ => (pg_name (i := 11) sc_law.nd rfl (Or.inl rfl))) (fun _ _ _ _ _ => pts_nil) (fun _ _ _ _ _ => (show PE _ _ (tBM K "list" (rIndex K) _ _) from (pe_bm PySem.F.plainAttrs_list PySem.F.slot_list_index PySem.F.type_list_index mt_index (pv 5) (pa_cons (pv 11) pa_nil))))) pa_nil))))) (pss_one (ps_ret pe_bl)) pss_nil)
      (C8.pss_cut (ps_if (PW.pt (pw_or (pt_not (pt_val (pe_call (ok_l_alike T) (hr.mono (by decide)) rfl T.g_l_alike T.k_l_alike T.b_l_alike .nil pass0 (pa_cons (pe_call (ok_laid T) (hr.mono (by decide)) rfl T.g_laid T.k_laid T.b_laid .nil pass0 (pa_cons (pv 7) (pa_cons (pv 8) pa_nil))) (pa_cons (pv 4) pa_nil))))) (pw_or1 (pt_not (pt_val (pe_call (ok_l_alike T) (hr.mono (by decide)) rfl T.g_l_alike T.k_l_alike T.b_l_alike .nil pass0 (pa_cons (pe_call (ok_laid T) (hr.mono (by decide)) rfl T.g_laid T.k_laid T.b_laid .nil pass0 (pa_cons (pe_call (ok_laid T) (hr.mono (by decide)) rfl T.g_laid T.k_laid T.b_laid .nil pass0 (pa_cons (pv 4) (pa_cons (pv 8) pa_nil))) (pa_cons (pv 6) pa_nil))) (pa_cons (pv 4) pa_nil)))))))) (pss_one (ps_ret pe_bl)) pss_nil)
      (C8.pss_cut (ps_expr (pe_bm PySem.F.plainAttrs_list PySem.F.slot_list_append PySem.F.type_list_append mt_append (pv 7) (pa_cons pe_int pa_nil)))
      (C8.pss_cut (ps_set (i := 9) sc_law.nd rfl (Or.inl rfl) (pe_call (ok_l_order T) (hr.mono (by decide)) rfl T.g_l_order T.k_l_order T.b_l_order .nil pass0 (pa_cons (pv 2) (pa_cons (pv 3) pa_nil))))
      (C8.pss_cut (ps_set (i := 10) sc_law.nd rfl (Or.inl rfl) (pe_call (ok_laid T) (hr.mono (by decide)) rfl T.g_laid T.k_laid T.b_laid .nil pass0 (pa_cons (pe_call (ok_laid T) (hr.mono (by decide)) rfl T.g_laid T.k_laid T.b_laid .nil pass0 (pa_cons (pv 4) (pa_cons (pv 5) pa_nil))) (pa_cons (pv 9) pa_nil))))
      (C8.pss_cut (ps_if (pt_not (pt_val (pe_call (ok_l_alike T) (hr.mono (by decide)) rfl T.g_l_alike T.k_l_alike T.b_l_alike .nil pass0 (pa_cons (pe_call (ok_laid T) (hr.mono (by decide)) rfl T.g_laid T.k_laid T.b_laid .nil pass0 (pa_cons (pe_call (ok_laid T) (hr.mono (by decide)) rfl T.g_laid T.k_laid T.b_laid .nil pass0 (pa_cons (pv 10) (pa_cons (pe_call (ok_turned_order T) (hr.mono (by decide)) rfl T.g_turned_order T.k_turned_order T.b_turned_order .nil pass0 (pa_cons (pv 9) pa_nil)) pa_nil))) (pa_cons (pv 8) pa_nil))) (pa_cons (pv 4) pa_nil))))) (pss_one (ps_ret pe_bl)) pss_nil)
      (pss_one (ps_if (PW.pt (pw_or (pt_not (pt_val (pe_call (ok_l_alike T) (hr.mono (by decide)) rfl T.g_l_alike T.k_l_alike T.b_l_alike .nil pass0 (pa_cons (pe_call (ok_laid T) (hr.mono (by decide)) rfl T.g_laid T.k_laid T.b_laid .nil pass0 (pa_cons (pv 4) (pa_cons (pv 6) pa_nil))) (pa_cons (pe_call (ok_l_laid T) (hr.mono (by decide)) rfl T.g_l_laid T.k_l_laid T.b_l_laid .nil pass0 (pa_cons (pv 4) (pa_cons (pv 5) pa_nil))) pa_nil))))) (pw_or1 (pt_not (pt_val (pe_call (ok_l_told T) (hr.mono (by decide)) rfl T.g_l_told T.k_l_told T.b_l_told .nil pass0 (pa_cons (pe_call (ok_turned_order T) (hr.mono (by decide)) rfl T.g_turned_order T.k_turned_order T.b_turned_order .nil pass0 (pa_cons (pv 8) pa_nil)) (pa_cons (pv 5) pa_nil)))))))) (pss_one (ps_ret pe_bl)) pss_nil)))))))))))))))))
      (pss_one (ps_ret pe_bl))), ?_⟩
  refine ⟨_, rfl, a, _, rfl, .inl hS, _, _, rfl, _, _, rfl, _, rfl, ?_, ?_, ?_⟩
  · split <;> split <;> omega
  · split <;> split <;> omega
  refine for_range (lo := 0) (n := _) (fun i σ H' => ∃ v1 v2 v3 v4 v5 v6 v7 v8 v9 v10 v11, σ = [some (.ref a), v1, v2, v3, v4, v5, v6, v7, v8, v9, v10, v11] ∧ Same H H')
    ⟨_, _, _, _, _, _, _, _, _, _, _, rfl, Same.refl _⟩ ?_ ?_
  · rintro i σ H0 hi ⟨v1, v2, v3, v4, v5, v6, v7, v8, v9, v10, v11, rfl, s0⟩
    tm_at "go"
    refine ⟨a, sc, _, rfl, s0.seq hS, by omega, fun c => ?_⟩
    tm_at "go"
    refine fun w x0 y0 z0 nw => ?_
    have nwH : H w = none := s0.free nw
    refine ⟨fun σ H' => ∃ (n : Nat) (x y z : Int), σ = [some (.ref a), some (.int (0 + (i : Int))), some (.ref w), some (.int n), v4, v5, v6, v7, v8, v9, v10, v11] ∧ n ≤ 60 ∧ H' w = some (wl x y z) ∧ Same H H', ?_, ?_⟩
    · tm_at "go"
      refine ⟨w, 60, x0, y0, z0, rfl, upd_same, by decide, by decide, fun r x1 y1 z1 H1 r0 r1 hw1 f1 => ?_⟩
      have er : ((r.toNat : Nat) : Int) = r := by omega
      exact ⟨r.toNat, x1, y1, z1, by rw [er]; rfl, by omega, hw1, (s0.mk nw).fr nwH f1⟩
    rintro σ H1 ⟨n, x1, y1, z1, rfl, hn, hw1, s1⟩
    refine ⟨fun σ H' => ∃ (ro l1 l2 : Addr) (rs : List V) (x y z : Int), σ = [some (.ref a), some (.int (0 + (i : Int))), some (.ref w), some (.int n), some (.ref ro), v5, v6, v7, v8, v9, v10, v11] ∧ rs.length = n ∧ (∀ v ∈ rs, TV l1 l2 v) ∧ Two H' l1 l2 ∧ l1 ≠ w ∧ l2 ≠ w ∧ ro ≠ w ∧ H' ro = some (.lst rs) ∧ H' w = some (wl x y z) ∧ Same H H', ?_, ?_⟩
    · tm_at "go"
      refine ⟨w, n, x1, y1, z1, rfl, hw1, by omega, fun H2 t l1 l2 rs x2 y2 z2 h1 h2 h3 h4 h5 h6 h7 h8 f => ?_⟩
      exact ⟨t, l1, l2, rs, x2, y2, z2, rfl, h1, h2, h3, h4, h5, h6, h7, h8, s1.fr nwH f⟩
    rintro σ H2 ⟨ro, l1, l2, rs, x2, y2, z2, rfl, hrs, hTV, tw2, hl1w, hl2w, hrow, hro2, hw2, s2⟩
    refine ⟨fun σ H' => ∃ (o : Addr) (ns : List Int) (x y z : Int), σ = [some (.ref a), some (.int (0 + (i : Int))), some (.ref w), some (.int n), some (.ref ro), some (.ref o), v6, v7, v8, v9, v10, v11] ∧ ns.Perm (below n) ∧ o ≠ w ∧ H' o = some (.lst (ns.map V.int)) ∧ Two H' l1 l2 ∧ H' ro = some (.lst rs) ∧ H' w = some (wl x y z) ∧ Same H H', ?_, ?_⟩
    · tm_at "go"
      refine ⟨w, n, x2, y2, z2, rfl, hw2, by omega, fun H3 t ns x3 y3 z3 h1 h2 h3 h4 h5 f => ?_⟩
      exact ⟨t, ns, x3, y3, z3, rfl, h1, h2, h4, ⟨f.g hl1w tw2.one, f.g hl2w tw2.two⟩, f.g hrow hro2, h5, s2.fr nwH f⟩
    rintro σ H3 ⟨o, ns, x3, y3, z3, rfl, hpm, how, ho3, tw3, hro3, hw3, s3⟩
    have hord := Ord.of hpm
    have hnl : ns.length = n := by rw [hpm.length_eq, below_len]
    have hrl : rs.length = ns.length := by omega
    refine ⟨fun σ H' => ∃ (hd : Addr) (b : Bool) (x y z : Int), σ = [some (.ref a), some (.int (0 + (i : Int))), some (.ref w), some (.int n), some (.ref ro), some (.ref o), some (.ref hd), v7, v8, v9, v10, v11] ∧ hd ≠ w ∧ H' hd = some (sq b (ns.map V.int)) ∧ H' o = some (.lst (ns.map V.int)) ∧ Two H' l1 l2 ∧ H' ro = some (.lst rs) ∧ H' w = some (wl x y z) ∧ Same H H', ?_, ?_⟩
    · tm_at "go"
      refine fun u1 nu1 => ?_
      have e1 : u1 ≠ w := Ne.symm (ne_nn nu1 hw3)
      have t1 := (Same.refl H3).mk (o := .lst (ns.map V.int)) nu1
      refine ⟨_, rfl, o, _, rfl, .inl ⟨SqL.of (t1.g ho3), fun u2 nu2 => ?_⟩⟩
      have e2 : u2 ≠ w := Ne.symm (ne_nn nu2 (t1.g hw3))
      have t2 := t1.mk (o := .tup (ns.map V.int)) nu2
      have e12 : u1 ≠ u2 := ne_nn nu2 upd_same
      refine ⟨Nat.le_of_ble_eq_true rfl, fun u3 nu3 => ?_⟩
      have e3 : u3 ≠ w := Ne.symm (ne_nn nu3 (t2.g hw3))
      have t3 := t2.mk (o := .lst [.ref u1, .ref u2]) nu3
      have g1 : (upd (upd (upd H3 u1 (.lst (ns.map V.int))) u2 (.tup (ns.map V.int))) u3 (.lst [.ref u1, .ref u2])) u1 = some (.lst (ns.map V.int)) := by rw [upd_ne (ne_nn nu3 (by rw [upd_ne e12]; exact upd_same)), upd_ne e12]; exact upd_same
      have g2 : (upd (upd (upd H3 u1 (.lst (ns.map V.int))) u2 (.tup (ns.map V.int))) u3 (.lst [.ref u1, .ref u2])) u2 = some (.tup (ns.map V.int)) := by rw [upd_ne (ne_nn nu3 upd_same)]; exact upd_same
      tm_at "go"
      refine ⟨_, _, _, _, _, rfl, t3.g hw3, (by decide), (by decide), fun r x y z hr0 hr1 => ?_⟩
      have cs : r = 0 ∨ r = 1 := by omega
      rcases cs with rfl | rfl
      · refine ⟨u3, _, 0, .ref u1, rfl, rfl, SqL.of (by rw [upd_ne e3]; exact upd_same), rfl, ?_⟩
        exact ⟨u1, false, x, y, z, rfl, e1, by rw [upd_ne e1]; exact g1, by rw [upd_ne how]; exact t3.g ho3, ⟨by rw [upd_ne hl1w]; exact t3.g tw3.one, by rw [upd_ne hl2w]; exact t3.g tw3.two⟩, by rw [upd_ne hrow]; exact t3.g hro3, upd_same, (s3.trans t3).mut nwH⟩
      · refine ⟨u3, _, 1, .ref u2, rfl, rfl, SqL.of (by rw [upd_ne e3]; exact upd_same), rfl, ?_⟩
        exact ⟨u2, true, x, y, z, rfl, e2, by rw [upd_ne e2]; exact g2, by rw [upd_ne how]; exact t3.g ho3, ⟨by rw [upd_ne hl1w]; exact t3.g tw3.one, by rw [upd_ne hl2w]; exact t3.g tw3.two⟩, by rw [upd_ne hrow]; exact t3.g hro3, upd_same, (s3.trans t3).mut nwH⟩
    rintro σ H4 ⟨hd, b, x4, y4, z4, rfl, hdw, hhd4, ho4, tw4, hro4, hw4, s4⟩
    refine ⟨fun σ H' => ∃ (fo : Addr) (x y z : Int), σ = [some (.ref a), some (.int (0 + (i : Int))), some (.ref w), some (.int n), some (.ref ro), some (.ref o), some (.ref hd), some (.ref fo), v8, v9, v10, v11] ∧ H fo = none ∧ fo ≠ ro ∧ fo ≠ o ∧ fo ≠ hd ∧ fo ≠ l1 ∧ fo ≠ l2 ∧ fo ≠ w ∧ H' fo = some (.lst (lay rs ns)) ∧ H' hd = some (sq b (ns.map V.int)) ∧ H' o = some (.lst (ns.map V.int)) ∧ Two H' l1 l2 ∧ H' ro = some (.lst rs) ∧ H' w = some (wl x y z) ∧ Same H H', ?_, ?_⟩
    · tm_at "go"
      refine fun u1 nu1 => ?_
      have e1 : u1 ≠ w := Ne.symm (ne_nn nu1 hw4)
      have t1 := (Same.refl H4).mk (o := .lst rs) nu1
      refine ⟨_, rfl, ro, _, rfl, .inl ⟨SqL.of (t1.g hro4), fun u2 nu2 => ?_⟩⟩
      have e2 : u2 ≠ w := Ne.symm (ne_nn nu2 (t1.g hw4))
      have t2 := t1.mk (o := .tup rs) nu2
      have e12 : u1 ≠ u2 := ne_nn nu2 upd_same
      refine ⟨Nat.le_of_ble_eq_true rfl, fun u3 nu3 => ?_⟩
      have e3 : u3 ≠ w := Ne.symm (ne_nn nu3 (t2.g hw4))
      have t3 := t2.mk (o := .lst [.ref u1, .ref u2]) nu3
      have g1 : (upd (upd (upd H4 u1 (.lst rs)) u2 (.tup rs)) u3 (.lst [.ref u1, .ref u2])) u1 = some (.lst rs) := by rw [upd_ne (ne_nn nu3 (by rw [upd_ne e12]; exact upd_same)), upd_ne e12]; exact upd_same
      have g2 : (upd (upd (upd H4 u1 (.lst rs)) u2 (.tup rs)) u3 (.lst [.ref u1, .ref u2])) u2 = some (.tup rs) := by rw [upd_ne (ne_nn nu3 upd_same)]; exact upd_same
      tm_at "go"
      refine ⟨_, _, _, _, _, rfl, t3.g hw4, (by decide), (by decide), fun r x y z hr0 hr1 => ?_⟩
      have hh : (upd (upd (upd (upd H4 u1 (.lst rs)) u2 (.tup rs)) u3 (.lst [.ref u1, .ref u2])) w (wl x y z)) hd = some (sq b (ns.map V.int)) := by rw [upd_ne hdw]; exact t3.g hhd4
      have hoo : (upd (upd (upd (upd H4 u1 (.lst rs)) u2 (.tup rs)) u3 (.lst [.ref u1, .ref u2])) w (wl x y z)) o = some (.lst (ns.map V.int)) := by rw [upd_ne how]; exact t3.g ho4
      have hrr2 : (upd (upd (upd (upd H4 u1 (.lst rs)) u2 (.tup rs)) u3 (.lst [.ref u1, .ref u2])) w (wl x y z)) ro = some (.lst rs) := by rw [upd_ne hrow]; exact t3.g hro4
      have tww : Two (upd (upd (upd (upd H4 u1 (.lst rs)) u2 (.tup rs)) u3 (.lst [.ref u1, .ref u2])) w (wl x y z)) l1 l2 := ⟨by rw [upd_ne hl1w]; exact t3.g tw4.one, by rw [upd_ne hl2w]; exact t3.g tw4.two⟩
      have sw : Same H (upd (upd (upd (upd H4 u1 (.lst rs)) u2 (.tup rs)) u3 (.lst [.ref u1, .ref u2])) w (wl x y z)) := (s4.trans t3).mut nwH
      have fin : ∀ (u : Addr) (c : Bool), (upd (upd (upd (upd H4 u1 (.lst rs)) u2 (.tup rs)) u3 (.lst [.ref u1, .ref u2])) w (wl x y z)) u = some (sq c rs) → sp_laid K [.ref u, .ref hd] (upd (upd (upd (upd H4 u1 (.lst rs)) u2 (.tup rs)) u3 (.lst [.ref u1, .ref u2])) w (wl x y z)) (fun v H' => ∃ (fo : Addr) (x y z : Int), v = .ref fo ∧ H fo = none ∧ fo ≠ ro ∧ fo ≠ o ∧ fo ≠ hd ∧ fo ≠ l1 ∧ fo ≠ l2 ∧ fo ≠ w ∧ H' fo = some (.lst (lay rs ns)) ∧ H' hd = some (sq b (ns.map V.int)) ∧ H' o = some (.lst (ns.map V.int)) ∧ Two H' l1 l2 ∧ H' ro = some (.lst rs) ∧ H' w = some (wl x y z) ∧ Same H H') E0 := by
        intro u c hu
        refine ⟨u, hd, c, b, rs, ns, rfl, hu, hh, hord, by omega, hrl, fun H5 t s5 nt ht => ?_⟩
        exact ⟨t, x, y, z, rfl, sw.free nt, Ne.symm (ne_nn nt hrr2), Ne.symm (ne_nn nt hoo), Ne.symm (ne_nn nt hh), Ne.symm (ne_nn nt tww.one), Ne.symm (ne_nn nt tww.two), Ne.symm (ne_nn nt upd_same), ht, s5.g hh, s5.g hoo, tww.same s5, s5.g hrr2, s5.g upd_same, sw.trans s5⟩
      have cs : r = 0 ∨ r = 1 := by omega
      rcases cs with rfl | rfl
      · refine ⟨u3, _, 0, .ref u1, rfl, rfl, SqL.of (by rw [upd_ne e3]; exact upd_same), rfl, ?_⟩
        refine ⟨_, rfl, ?_⟩
        obtain ⟨r', p', c', b', rs', ns', e', a1, a2, a3, a4, a5, a6⟩ := fin u1 false (by rw [upd_ne e1]; exact g1)
        exact ⟨r', p', c', b', rs', ns', e', a1, a2, a3, a4, a5, fun H' t s' nt ht => by obtain ⟨fo, x, y, z, e, rest⟩ := a6 H' t s' nt ht; cases e; exact ⟨t, x, y, z, rfl, rest⟩⟩
      · refine ⟨u3, _, 1, .ref u2, rfl, rfl, SqL.of (by rw [upd_ne e3]; exact upd_same), rfl, ?_⟩
        refine ⟨_, rfl, ?_⟩
        obtain ⟨r', p', c', b', rs', ns', e', a1, a2, a3, a4, a5, a6⟩ := fin u2 true (by rw [upd_ne e2]; exact g2)
        exact ⟨r', p', c', b', rs', ns', e', a1, a2, a3, a4, a5, fun H' t s' nt ht => by obtain ⟨fo, x, y, z, e, rest⟩ := a6 H' t s' nt ht; cases e; exact ⟨t, x, y, z, rfl, rest⟩⟩
    rintro σ H5 ⟨fo, x5, y5, z5, rfl, nfo, for_, foo, fohd, fol1, fol2, fow, hfo5, hhd5, ho5, tw5, hro5, hw5, s5⟩
    refine ⟨fun σ H' => σ = [some (.ref a), some (.int (0 + (i : Int))), some (.ref w), some (.int n), some (.ref ro), some (.ref o), some (.ref hd), some (.ref fo), v8, v9, v10, v11] ∧ Same H5 H', ?_, ?_⟩
    · tm_at "go"
      refine ⟨ro, o, rs, ns, rfl, hro5, ho5, hord, by omega, hrl, fun H6 t s6 ht => ?_⟩
      refine ⟨fo, t, l1, l2, lay rs ns, rfl, s6.g hfo5, ht, by rw [lay_len]; omega, lay_tv hord hrl hTV, tw5.same s6, fun H7 s7 => ?_⟩
      have s57 := s6.trans s7
      tm_at "go"
      refine fun l nl => ?_
      have s8 := s57.mk (o := .lst (ns.map V.int)) nl
      refine ⟨_, rfl, neI (b := false) (c := false) (ns := ns) (ms := ns) upd_same (s8.g ho5) ?_⟩
      tm_at "go"
      refine ifF (by simp) ?_
      tm_at "go"
      refine ⟨hd, b, ns, rfl, s8.g hhd5, hord, by omega, fun H9 s9 => ?_⟩
      tm_at "go"
      exact s8.trans s9
    rintro σ H6 ⟨rfl, s6⟩
    refine ⟨fun σ H' => ∃ un, σ = [some (.ref a), some (.int (0 + (i : Int))), some (.ref w), some (.int n), some (.ref ro), some (.ref o), some (.ref hd), some (.ref fo), some (.ref un), v9, v10, v11] ∧ H' un = some (.tup ((inv ns).map V.int)) ∧ Same H5 H', ?_, ?_⟩
    · tm_at "go"
      exact ⟨hd, b, ns, rfl, s6.g hhd5, hord, by omega, fun H7 t s7 ht => ⟨t, rfl, ht, s6.trans s7⟩⟩
    rintro σ H7 ⟨un, rfl, hun7, s7⟩
    have hil : (inv ns).length = ns.length := inv_len ns
    have hio := inv_ord hord
    refine ⟨fun σ H' => σ = [some (.ref a), some (.int (0 + (i : Int))), some (.ref w), some (.int n), some (.ref ro), some (.ref o), some (.ref hd), some (.ref fo), some (.ref un), v9, v10, v11] ∧ Same H7 H', ?_, ?_⟩
    · tm_at "go"
      refine ⟨by omega, by omega, ?_⟩
      have en : ((n : Nat) : Int).toNat = ns.length := by omega
      rw [en]
      refine lcR (fun _ => true) (fun k => .int (ns.idxOf (k : Int) : Nat)) (by omega) (fun _ => rfl) (fun x H' _ _ R k => k _ (Same.refl _)) (fun k H' hk _ s' R r => ?_) (fun D H8 nD s8 hD => ?_)
      · have e0 : (0 : Int) + (k : Int) = k := by omega
        have hoo := s'.g (s7.g ho5)
        rw [e0]
        refine ⟨_, rfl, .inl ⟨rfl, _, SqL.of hoo⟩, _, rfl, ?_⟩
        exact mt_ix hord.nd hoo (hord.all hk) (r _ (Same.refl _))
      rw [filter_yes] at hD
      have hD : H8 D = some (.lst ((inv ns).map V.int)) := by rw [hD]; unfold inv; rw [List.map_map]; rfl
      refine ⟨un, D, false, inv ns, rfl, s8.g hun7, hD, by omega, fun H9 s9 => ?_⟩
      tm_at "go"
      exact s8.trans s9
    rintro σ H8 ⟨rfl, s8⟩
    have s58 := s7.trans s8
    have hun8 := s8.g hun7
    refine ⟨fun σ H' => σ = [some (.ref a), some (.int (0 + (i : Int))), some (.ref w), some (.int n), some (.ref ro), some (.ref o), some (.ref hd), some (.ref fo), some (.ref un), v9, v10, v11] ∧ Same H8 H', ?_, ?_⟩
    · tm_at "go"
      refine ⟨fo, un, false, true, lay rs ns, inv ns, rfl, s58.g hfo5, hun8, hio, by omega, by rw [lay_len]; omega, fun H9 t s9 nt ht => ?_⟩
      rw [lay_inv hord hrl] at ht
      refine ⟨_, rfl, t, ro, l1, l2, rs, rfl, ht, s9.g (s58.g hro5), by omega, hTV, (tw5.same s58).same s9, fun H10 s10 => ?_⟩
      have s9a := s9.trans s10
      tm_at "go"
      refine ⟨ro, un, false, true, rs, inv ns, rfl, s9a.g (s58.g hro5), s9a.g hun8, hio, by omega, by omega, fun H11 t2 s11 nt2 ht2 => ?_⟩
      refine ⟨_, rfl, t2, hd, false, b, lay rs (inv ns), ns, rfl, ht2, s11.g (s9a.g (s58.g hhd5)), hord, by omega, by rw [lay_len]; omega, fun H12 t3 s12 nt3 ht3 => ?_⟩
      rw [lay_inv2 hord hrl] at ht3
      have s9b := (s9a.trans s11).trans s12
      refine ⟨_, rfl, t3, ro, l1, l2, rs, rfl, ht3, s9b.g (s58.g hro5), by omega, hTV, (tw5.same s58).same s9b, fun H13 s13 => ?_⟩
      tm_at "go"
      exact s9b.trans s13
    rintro σ H9 ⟨rfl, s9⟩
    have s59 := s58.trans s9
    have hun9 := s9.g hun8
    have hfo9 := s59.g hfo5
    have unfo : un ≠ fo := ne_of hun9 hfo9 (by intro z; cases z)
    have unw : un ≠ w := ne_of hun9 (s59.g hw5) (by intro z; cases z)
    refine ⟨fun σ H' => σ = [some (.ref a), some (.int (0 + (i : Int))), some (.ref w), some (.int n), some (.ref ro), some (.ref o), some (.ref hd), some (.ref fo), some (.ref un), v9, v10, v11] ∧ H' un = some (.tup ((inv ns).map V.int)) ∧ H' hd = some (sq b (ns.map V.int)) ∧ H' o = some (.lst (ns.map V.int)) ∧ Two H' l1 l2 ∧ H' ro = some (.lst rs) ∧ H' w = some (wl x5 y5 z5) ∧ Same H H', ?_, ?_⟩
    · refine ⟨_, rfl, .inl ⟨rfl, _, SqL.of hfo9⟩, fo, _, _, rfl, rfl, hfo9, ?_, ?_⟩
      · rw [lay_len]; exact Nat.lt_of_le_of_lt (show ns.length ≤ 60 by omega) (by decide)
      refine ⟨rfl, by rw [upd_ne unfo]; exact hun9, by rw [upd_ne (Ne.symm fohd)]; exact s59.g hhd5, by rw [upd_ne (Ne.symm foo)]; exact s59.g ho5, ⟨by rw [upd_ne (Ne.symm fol1)]; exact s59.g tw5.one, by rw [upd_ne (Ne.symm fol2)]; exact s59.g tw5.two⟩, by rw [upd_ne (Ne.symm for_)]; exact s59.g hro5, by rw [upd_ne (Ne.symm fow)]; exact s59.g hw5, (s5.trans s59).mut nfo⟩
    rintro σ HA ⟨rfl, hunA, hhdA, hoA, twA, hroA, hwA, sA⟩
    refine ⟨fun σ H' => ∃ (ot : Addr) (ms : List Int), σ = [some (.ref a), some (.int (0 + (i : Int))), some (.ref w), some (.int n), some (.ref ro), some (.ref o), some (.ref hd), some (.ref fo), some (.ref un), some (.ref ot), v10, v11] ∧ ms.Perm (below n) ∧ H' ot = some (.lst (ms.map V.int)) ∧ H' un = some (.tup ((inv ns).map V.int)) ∧ H' hd = some (sq b (ns.map V.int)) ∧ H' o = some (.lst (ns.map V.int)) ∧ Two H' l1 l2 ∧ H' ro = some (.lst rs) ∧ Same H H', ?_, ?_⟩
    · tm_at "go"
      refine ⟨w, n, x5, y5, z5, rfl, hwA, by omega, fun HB t ms x6 y6 z6 h1 h2 h3 h4 h5 f => ?_⟩
      exact ⟨t, ms, rfl, h1, h4, f.g unw hunA, f.g hdw hhdA, f.g how hoA, ⟨f.g hl1w twA.one, f.g hl2w twA.two⟩, f.g hrow hroA, sA.fr nwH f⟩
    rintro σ HB ⟨ot, ms, rfl, hms, hotB, hunB, hhdB, hoB, twB, hroB, sB⟩
    have hmo := Ord.of hms
    have hml : ms.length = n := by rw [hms.length_eq, below_len]
    refine ⟨fun σ H' => ∃ bo, σ = [some (.ref a), some (.int (0 + (i : Int))), some (.ref w), some (.int n), some (.ref ro), some (.ref o), some (.ref hd), some (.ref fo), some (.ref un), some (.ref ot), some (.ref bo), v11] ∧ H' bo = some (.lst (lay (lay rs ns) ms)) ∧ Same HB H', ?_, ?_⟩
    · tm_at "go"
      refine ⟨ro, o, false, false, rs, ns, rfl, hroB, hoB, hord, by omega, hrl, fun HC t sC nt ht => ?_⟩
      refine ⟨_, rfl, t, ot, false, false, lay rs ns, ms, rfl, ht, sC.g hotB, hmo, by omega, by rw [lay_len]; omega, fun HD t2 sD nt2 ht2 => ?_⟩
      exact ⟨t2, rfl, ht2, sC.trans sD⟩
    rintro σ HC ⟨bo, rfl, hboC, sC⟩
    refine ⟨fun σ H' => σ = [some (.ref a), some (.int (0 + (i : Int))), some (.ref w), some (.int n), some (.ref ro), some (.ref o), some (.ref hd), some (.ref fo), some (.ref un), some (.ref ot), some (.ref bo), v11] ∧ Same HC H', ?_, ?_⟩
    · tm_at "go"
      refine ⟨ot, false, ms, rfl, sC.g hotB, hmo, by omega, fun HD t sD ht => ?_⟩
      refine ⟨bo, t, false, true, lay (lay rs ns) ms, inv ms, rfl, sD.g hboC, ht, inv_ord hmo, by rw [inv_len]; omega, by rw [lay_len, inv_len], fun HE t2 sE nt2 ht2 => ?_⟩
      rw [lay_inv hmo (by rw [lay_len]; omega)] at ht2
      have sCE := sD.trans sE
      refine ⟨_, rfl, t2, un, false, true, lay rs ns, inv ns, rfl, ht2, sCE.g (sC.g hunB), hio, by omega, by rw [lay_len, inv_len], fun HF t3 sF nt3 ht3 => ?_⟩
      rw [lay_inv hord hrl] at ht3
      have sCF := sCE.trans sF
      refine ⟨_, rfl, t3, ro, l1, l2, rs, rfl, ht3, sCF.g (sC.g hroB), by omega, hTV, (twB.same sC).same sCF, fun HG sG => ?_⟩
      tm_at "go"
      exact sCF.trans sG
    rintro σ HD ⟨rfl, sD⟩
    have sBD := sC.trans sD
    tm_at "go"
    refine ⟨ro, hd, false, b, rs, ns, rfl, sBD.g hroB, sBD.g hhdB, hord, by omega, hrl, fun HE t sE nt ht => ?_⟩
    have sBE := sBD.trans sE
    refine ⟨_, rfl, _, rfl, ro, o, rs, ns, rfl, sBE.g hroB, sBE.g hoB, hord, by omega, hrl, fun HF t2 sF ht2 => ?_⟩
    have sBF := sBE.trans sF
    refine ⟨t, t2, l1, l2, lay rs ns, rfl, sF.g ht, ht2, by rw [lay_len]; omega, lay_tv hord hrl hTV, twB.same sBF, fun HG sG => ?_⟩
    have sBG := sBF.trans sG
    tm_at "go"
    refine ⟨un, true, inv ns, rfl, sBG.g hunB, hio, by omega, fun HI t3 sI ht3 => ?_⟩
    rw [inv_inv hord] at ht3
    refine ⟨_, rfl, t3, o, false, ns, rfl, ht3, sI.g (sBG.g hoB), by omega, fun HJ sJ => ?_⟩
    tm_at "go"
    exact ⟨_, _, _, _, _, _, _, _, _, _, _, rfl, ((sB.trans sBG).trans sI).trans sJ⟩
  · rintro σ H' ⟨v1, v2, v3, v4, v5, v6, v7, v8, v9, v10, v11, rfl, s0⟩
    exact q _

end
theorem all_mk {l : PySem.W.OpenLaw} {w : World} {K : PySem.W.Frag} {h : Heap} {mg : Str → Option Value} {fa : Addr} (X : K.In h) (G : h.Ns mainGlobals mg) (hfa : mg "law" = some (.ref fa))
    {f1 : Addr} {od1 an1 : Option Addr} {sl1 : Array (Option Value)} {oc1 kV1 dc1 pm1 cd1 ct1 : Value}
    {f2 : Addr} {od2 an2 : Option Addr} {sl2 : Array (Option Value)} {oc2 kV2 dc2 pm2 cd2 ct2 : Value}
    {f3 : Addr} {od3 an3 : Option Addr} {sl3 : Array (Option Value)} {oc3 kV3 dc3 pm3 cd3 ct3 : Value}
    {f4 : Addr} {od4 an4 : Option Addr} {sl4 : Array (Option Value)} {oc4 kV4 dc4 pm4 cd4 ct4 : Value}
    {f5 : Addr} {od5 an5 : Option Addr} {sl5 : Array (Option Value)} {oc5 kV5 dc5 pm5 cd5 ct5 : Value}
    {f6 : Addr} {od6 an6 : Option Addr} {sl6 : Array (Option Value)} {oc6 kV6 dc6 pm6 cd6 ct6 : Value}
    {f7 : Addr} {od7 an7 : Option Addr} {sl7 : Array (Option Value)} {oc7 kV7 dc7 pm7 cd7 ct7 : Value}
    {f8 : Addr} {od8 an8 : Option Addr} {sl8 : Array (Option Value)} {oc8 kV8 dc8 pm8 cd8 ct8 : Value}
    {f9 : Addr} {od9 an9 : Option Addr} {sl9 : Array (Option Value)} {oc9 kV9 dc9 pm9 cd9 ct9 : Value}
    {f10 : Addr} {od10 an10 : Option Addr} {sl10 : Array (Option Value)} {oc10 kV10 dc10 pm10 cd10 ct10 : Value}
    {f11 : Addr} {od11 an11 : Option Addr} {sl11 : Array (Option Value)} {oc11 kV11 dc11 pm11 cd11 ct11 : Value}
    {f12 : Addr} {od12 an12 : Option Addr} {sl12 : Array (Option Value)} {oc12 kV12 dc12 pm12 cd12 ct12 : Value}
    {f13 : Addr} {od13 an13 : Option Addr} {sl13 : Array (Option Value)} {oc13 kV13 dc13 pm13 cd13 ct13 : Value}
    {f14 : Addr} {od14 an14 : Option Addr} {sl14 : Array (Option Value)} {oc14 kV14 dc14 pm14 cd14 ct14 : Value}
    {f15 : Addr} {od15 an15 : Option Addr} {sl15 : Array (Option Value)} {oc15 kV15 dc15 pm15 cd15 ct15 : Value}
    {f16 : Addr} {od16 an16 : Option Addr} {sl16 : Array (Option Value)} {oc16 kV16 dc16 pm16 cd16 ct16 : Value}
    {f17 : Addr} {od17 an17 : Option Addr} {sl17 : Array (Option Value)} {oc17 kV17 dc17 pm17 cd17 ct17 : Value}
    {t_MOST_LAID : Tok}
    (a1 : PySem.W.nsIn K mainGlobals "is_whole" = some (some (.ref f1)))
    (l1 : K.lookup f1 = some ⟨oc1, od1, .func (PySem.W.fnOf "is_whole" "is_whole" (defArgs s_is_whole) (defBody s_is_whole) (defScope s_is_whole) .none kV1 dc1 pm1 an1 cd1 ct1), sl1⟩) (c1 : PySem.W.codeIn K cd1 "is_whole" = true) (k1 : PySem.W.keepIn K (.ref f1) = true)
    (a2 : PySem.W.nsIn K mainGlobals "is_within" = some (some (.ref f2)))
    (l2 : K.lookup f2 = some ⟨oc2, od2, .func (PySem.W.fnOf "is_within" "is_within" (defArgs s_is_within) (defBody s_is_within) (defScope s_is_within) .none kV2 dc2 pm2 an2 cd2 ct2), sl2⟩) (c2 : PySem.W.codeIn K cd2 "is_within" = true) (k2 : PySem.W.keepIn K (.ref f2) = true)
    (a3 : PySem.W.nsIn K mainGlobals "is_row" = some (some (.ref f3)))
    (l3 : K.lookup f3 = some ⟨oc3, od3, .func (PySem.W.fnOf "is_row" "is_row" (defArgs s_is_row) (defBody s_is_row) (defScope s_is_row) .none kV3 dc3 pm3 an3 cd3 ct3), sl3⟩) (c3 : PySem.W.codeIn K cd3 "is_row" = true) (k3 : PySem.W.keepIn K (.ref f3) = true)
    (a4 : PySem.W.nsIn K mainGlobals "is_order" = some (some (.ref f4)))
    (l4 : K.lookup f4 = some ⟨oc4, od4, .func (PySem.W.fnOf "is_order" "is_order" (defArgs s_is_order) (defBody s_is_order) (defScope s_is_order) .none kV4 dc4 pm4 an4 cd4 ct4), sl4⟩) (c4 : PySem.W.codeIn K cd4 "is_order" = true) (k4 : PySem.W.keepIn K (.ref f4) = true)
    (a5 : PySem.W.nsIn K mainGlobals "need_order" = some (some (.ref f5)))
    (l5 : K.lookup f5 = some ⟨oc5, od5, .func (PySem.W.fnOf "need_order" "need_order" (defArgs s_need_order) (defBody s_need_order) (defScope s_need_order) .none kV5 dc5 pm5 an5 cd5 ct5), sl5⟩) (c5 : PySem.W.codeIn K cd5 "need_order" = true) (k5 : PySem.W.keepIn K (.ref f5) = true)
    (a6 : PySem.W.nsIn K mainGlobals "laid" = some (some (.ref f6)))
    (l6 : K.lookup f6 = some ⟨oc6, od6, .func (PySem.W.fnOf "laid" "laid" (defArgs s_laid) (defBody s_laid) (defScope s_laid) .none kV6 dc6 pm6 an6 cd6 ct6), sl6⟩) (c6 : PySem.W.codeIn K cd6 "laid" = true) (k6 : PySem.W.keepIn K (.ref f6) = true)
    (a7 : PySem.W.nsIn K mainGlobals "turned_order" = some (some (.ref f7)))
    (l7 : K.lookup f7 = some ⟨oc7, od7, .func (PySem.W.fnOf "turned_order" "turned_order" (defArgs s_turned_order) (defBody s_turned_order) (defScope s_turned_order) .none kV7 dc7 pm7 an7 cd7 ct7), sl7⟩) (c7 : PySem.W.codeIn K cd7 "turned_order" = true) (k7 : PySem.W.keepIn K (.ref f7) = true)
    (a8 : PySem.W.nsIn K mainGlobals "_law_cell" = some (some (.ref f8)))
    (l8 : K.lookup f8 = some ⟨oc8, od8, .func (PySem.W.fnOf "_law_cell" "_law_cell" (defArgs s_l_cell) (defBody s_l_cell) (defScope s_l_cell) .none kV8 dc8 pm8 an8 cd8 ct8), sl8⟩) (c8 : PySem.W.codeIn K cd8 "_law_cell" = true) (k8 : PySem.W.keepIn K (.ref f8) = true)
    (a9 : PySem.W.nsIn K mainGlobals "_law_well" = some (some (.ref f9)))
    (l9 : K.lookup f9 = some ⟨oc9, od9, .func (PySem.W.fnOf "_law_well" "_law_well" (defArgs s_l_well) (defBody s_l_well) (defScope s_l_well) .none kV9 dc9 pm9 an9 cd9 ct9), sl9⟩) (c9 : PySem.W.codeIn K cd9 "_law_well" = true) (k9 : PySem.W.keepIn K (.ref f9) = true)
    (a10 : PySem.W.nsIn K mainGlobals "_law_draw" = some (some (.ref f10)))
    (l10 : K.lookup f10 = some ⟨oc10, od10, .func (PySem.W.fnOf "_law_draw" "_law_draw" (defArgs s_l_draw) (defBody s_l_draw) (defScope s_l_draw) .none kV10 dc10 pm10 an10 cd10 ct10), sl10⟩) (c10 : PySem.W.codeIn K cd10 "_law_draw" = true) (k10 : PySem.W.keepIn K (.ref f10) = true)
    (a11 : PySem.W.nsIn K mainGlobals "_law_order" = some (some (.ref f11)))
    (l11 : K.lookup f11 = some ⟨oc11, od11, .func (PySem.W.fnOf "_law_order" "_law_order" (defArgs s_l_order) (defBody s_l_order) (defScope s_l_order) .none kV11 dc11 pm11 an11 cd11 ct11), sl11⟩) (c11 : PySem.W.codeIn K cd11 "_law_order" = true) (k11 : PySem.W.keepIn K (.ref f11) = true)
    (a12 : PySem.W.nsIn K mainGlobals "_law_many" = some (some (.ref f12)))
    (l12 : K.lookup f12 = some ⟨oc12, od12, .func (PySem.W.fnOf "_law_many" "_law_many" (defArgs s_l_many) (defBody s_l_many) (defScope s_l_many) .none kV12 dc12 pm12 an12 cd12 ct12), sl12⟩) (c12 : PySem.W.codeIn K cd12 "_law_many" = true) (k12 : PySem.W.keepIn K (.ref f12) = true)
    (a13 : PySem.W.nsIn K mainGlobals "_law_told" = some (some (.ref f13)))
    (l13 : K.lookup f13 = some ⟨oc13, od13, .func (PySem.W.fnOf "_law_told" "_law_told" (defArgs s_l_told) (defBody s_l_told) (defScope s_l_told) .none kV13 dc13 pm13 an13 cd13 ct13), sl13⟩) (c13 : PySem.W.codeIn K cd13 "_law_told" = true) (k13 : PySem.W.keepIn K (.ref f13) = true)
    (a14 : PySem.W.nsIn K mainGlobals "_law_things" = some (some (.ref f14)))
    (l14 : K.lookup f14 = some ⟨oc14, od14, .func (PySem.W.fnOf "_law_things" "_law_things" (defArgs s_l_things) (defBody s_l_things) (defScope s_l_things) .none kV14 dc14 pm14 an14 cd14 ct14), sl14⟩) (c14 : PySem.W.codeIn K cd14 "_law_things" = true) (k14 : PySem.W.keepIn K (.ref f14) = true)
    (a15 : PySem.W.nsIn K mainGlobals "_law_laid" = some (some (.ref f15)))
    (l15 : K.lookup f15 = some ⟨oc15, od15, .func (PySem.W.fnOf "_law_laid" "_law_laid" (defArgs s_l_laid) (defBody s_l_laid) (defScope s_l_laid) .none kV15 dc15 pm15 an15 cd15 ct15), sl15⟩) (c15 : PySem.W.codeIn K cd15 "_law_laid" = true) (k15 : PySem.W.keepIn K (.ref f15) = true)
    (a16 : PySem.W.nsIn K mainGlobals "_law_alike" = some (some (.ref f16)))
    (l16 : K.lookup f16 = some ⟨oc16, od16, .func (PySem.W.fnOf "_law_alike" "_law_alike" (defArgs s_l_alike) (defBody s_l_alike) (defScope s_l_alike) .none kV16 dc16 pm16 an16 cd16 ct16), sl16⟩) (c16 : PySem.W.codeIn K cd16 "_law_alike" = true) (k16 : PySem.W.keepIn K (.ref f16) = true)
    (a17 : PySem.W.nsIn K mainGlobals "law" = some (some (.ref f17)))
    (l17 : K.lookup f17 = some ⟨oc17, od17, .func (PySem.W.fnOf "law" "law" (defArgs s_law) (defBody s_law) (defScope s_law) .none kV17 dc17 pm17 an17 cd17 ct17), sl17⟩) (c17 : PySem.W.codeIn K cd17 "law" = true) (k17 : PySem.W.keepIn K (.ref f17) = true)
    (z_len : PySem.W.nsIn K mainGlobals "len" = some none)
    (z_max : PySem.W.nsIn K mainGlobals "max" = some none)
    (z_min : PySem.W.nsIn K mainGlobals "min" = some none)
    (z_all : PySem.W.nsIn K mainGlobals "all" = some none)
    (z_isinstance : PySem.W.nsIn K mainGlobals "isinstance" = some none)
    (z_int : PySem.W.nsIn K mainGlobals "int" = some none)
    (z_bool : PySem.W.nsIn K mainGlobals "bool" = some none)
    (z_list : PySem.W.nsIn K mainGlobals "list" = some none)
    (z_tuple : PySem.W.nsIn K mainGlobals "tuple" = some none)
    (z_range : PySem.W.nsIn K mainGlobals "range" = some none)
    (z_enumerate : PySem.W.nsIn K mainGlobals "enumerate" = some none)
    (z_zip : PySem.W.nsIn K mainGlobals "zip" = some none)
    (y_MOST_LAID : PySem.W.nsIn K mainGlobals "MOST_LAID" = some (some (.int (60) t_MOST_LAID))) :
    ∃ fd : FuncData, (∀ (s : Shared) (v : Value), BindsTo s fd ⟨[v], []⟩ [("_law_script", v)]) ∧ ∀ base : Heap, K.In base → base.Ns mainGlobals mg → FnOk l.prog w K mg base CX0 6 fa fd ["_law_script"] (sp_law K) := by
  have e := hfa.symm.trans (PySem.W.mg_of X G a17)
  cases e
  have F1 := fun_mk (st := s_is_whole) l1 c1 k1
  have b1 := F1.binds (ps := ["thing"]) fun _ _ _ _ _ _ us hl => match us, hl with | [_], _ => rfl
  have F2 := fun_mk (st := s_is_within) l2 c2 k2
  have b2 := F2.binds (ps := ["thing", "low", "high"]) fun _ _ _ _ _ _ us hl => match us, hl with | [_, _, _], _ => rfl
  have F3 := fun_mk (st := s_is_row) l3 c3 k3
  have b3 := F3.binds (ps := ["thing"]) fun _ _ _ _ _ _ us hl => match us, hl with | [_], _ => rfl
  have F4 := fun_mk (st := s_is_order) l4 c4 k4
  have b4 := F4.binds (ps := ["thing"]) fun _ _ _ _ _ _ us hl => match us, hl with | [_], _ => rfl
  have F5 := fun_mk (st := s_need_order) l5 c5 k5
  have b5 := F5.binds (ps := ["thing"]) fun _ _ _ _ _ _ us hl => match us, hl with | [_], _ => rfl
  have F6 := fun_mk (st := s_laid) l6 c6 k6
  have b6 := F6.binds (ps := ["row", "order"]) fun _ _ _ _ _ _ us hl => match us, hl with | [_, _], _ => rfl
  have F7 := fun_mk (st := s_turned_order) l7 c7 k7
  have b7 := F7.binds (ps := ["order"]) fun _ _ _ _ _ _ us hl => match us, hl with | [_], _ => rfl
  have F8 := fun_mk (st := s_l_cell) l8 c8 k8
  have b8 := F8.binds (ps := ["_law_script", "_law_k"]) fun _ _ _ _ _ _ us hl => match us, hl with | [_, _], _ => rfl
  have F9 := fun_mk (st := s_l_well) l9 c9 k9
  have b9 := F9.binds (ps := ["_law_cell_here"]) fun _ _ _ _ _ _ us hl => match us, hl with | [_], _ => rfl
  have F10 := fun_mk (st := s_l_draw) l10 c10 k10
  have b10 := F10.binds (ps := ["_law_well_here", "_law_many_here"]) fun _ _ _ _ _ _ us hl => match us, hl with | [_, _], _ => rfl
  have F11 := fun_mk (st := s_l_order) l11 c11 k11
  have b11 := F11.binds (ps := ["_law_well_here", "_law_many_here"]) fun _ _ _ _ _ _ us hl => match us, hl with | [_, _], _ => rfl
  have F12 := fun_mk (st := s_l_many) l12 c12 k12
  have b12 := F12.binds (ps := ["_law_well_here", "_law_most"]) fun _ _ _ _ _ _ us hl => match us, hl with | [_, _], _ => rfl
  have F13 := fun_mk (st := s_l_told) l13 c13 k13
  have b13 := F13.binds (ps := ["_law_found", "_law_due"]) fun _ _ _ _ _ _ us hl => match us, hl with | [_, _], _ => rfl
  have F14 := fun_mk (st := s_l_things) l14 c14 k14
  have b14 := F14.binds (ps := ["_law_well_here", "_law_many_here"]) fun _ _ _ _ _ _ us hl => match us, hl with | [_, _], _ => rfl
  have F15 := fun_mk (st := s_l_laid) l15 c15 k15
  have b15 := F15.binds (ps := ["_law_row", "_law_order_here"]) fun _ _ _ _ _ _ us hl => match us, hl with | [_, _], _ => rfl
  have F16 := fun_mk (st := s_l_alike) l16 c16 k16
  have b16 := F16.binds (ps := ["_law_found", "_law_due"]) fun _ _ _ _ _ _ us hl => match us, hl with | [_, _], _ => rfl
  have F17 := fun_mk (st := s_law) l17 c17 k17
  have b17 := F17.binds (ps := ["_law_script"]) fun _ _ _ _ _ _ us hl => match us, hl with | [_], _ => rfl
  let T : Txt K mg := { f_is_whole := f1, d_is_whole := _, g_is_whole := PySem.W.mg_of X G a1, k_is_whole := k1, F_is_whole := F1, b_is_whole := b1, f_is_within := f2, d_is_within := _, g_is_within := PySem.W.mg_of X G a2, k_is_within := k2, F_is_within := F2, b_is_within := b2, f_is_row := f3, d_is_row := _, g_is_row := PySem.W.mg_of X G a3, k_is_row := k3, F_is_row := F3, b_is_row := b3, f_is_order := f4, d_is_order := _, g_is_order := PySem.W.mg_of X G a4, k_is_order := k4, F_is_order := F4, b_is_order := b4, f_need_order := f5, d_need_order := _, g_need_order := PySem.W.mg_of X G a5, k_need_order := k5, F_need_order := F5, b_need_order := b5, f_laid := f6, d_laid := _, g_laid := PySem.W.mg_of X G a6, k_laid := k6, F_laid := F6, b_laid := b6, f_turned_order := f7, d_turned_order := _, g_turned_order := PySem.W.mg_of X G a7, k_turned_order := k7, F_turned_order := F7, b_turned_order := b7, f_l_cell := f8, d_l_cell := _, g_l_cell := PySem.W.mg_of X G a8, k_l_cell := k8, F_l_cell := F8, b_l_cell := b8, f_l_well := f9, d_l_well := _, g_l_well := PySem.W.mg_of X G a9, k_l_well := k9, F_l_well := F9, b_l_well := b9, f_l_draw := f10, d_l_draw := _, g_l_draw := PySem.W.mg_of X G a10, k_l_draw := k10, F_l_draw := F10, b_l_draw := b10, f_l_order := f11, d_l_order := _, g_l_order := PySem.W.mg_of X G a11, k_l_order := k11, F_l_order := F11, b_l_order := b11, f_l_many := f12, d_l_many := _, g_l_many := PySem.W.mg_of X G a12, k_l_many := k12, F_l_many := F12, b_l_many := b12, f_l_told := f13, d_l_told := _, g_l_told := PySem.W.mg_of X G a13, k_l_told := k13, F_l_told := F13, b_l_told := b13, f_l_things := f14, d_l_things := _, g_l_things := PySem.W.mg_of X G a14, k_l_things := k14, F_l_things := F14, b_l_things := b14, f_l_laid := f15, d_l_laid := _, g_l_laid := PySem.W.mg_of X G a15, k_l_laid := k15, F_l_laid := F15, b_l_laid := b15, f_l_alike := f16, d_l_alike := _, g_l_alike := PySem.W.mg_of X G a16, k_l_alike := k16, F_l_alike := F16, b_l_alike := b16, f_law := fa, d_law := _, g_law := PySem.W.mg_of X G a17, k_law := k17, F_law := F17, b_law := b17, n_len := PySem.W.mg_none_of X G z_len, n_max := PySem.W.mg_none_of X G z_max, n_min := PySem.W.mg_none_of X G z_min, n_all := PySem.W.mg_none_of X G z_all, n_isinstance := PySem.W.mg_none_of X G z_isinstance, n_int := PySem.W.mg_none_of X G z_int, n_bool := PySem.W.mg_none_of X G z_bool, n_list := PySem.W.mg_none_of X G z_list, n_tuple := PySem.W.mg_none_of X G z_tuple, n_range := PySem.W.mg_none_of X G z_range, n_enumerate := PySem.W.mg_none_of X G z_enumerate, n_zip := PySem.W.mg_none_of X G z_zip, c_MOST_LAID := ⟨_, PySem.W.mg_of X G y_MOST_LAID⟩ }
  exact ⟨PySem.W.fnOf "law" "law" (defArgs s_law) (defBody s_law) (defScope s_law) .none kV17 dc17 pm17 an17 cd17 ct17, fun s v => .of_eq rfl, fun base _ _ => ok_law T⟩
theorem walk {l : PySem.W.OpenLaw} {q : Program} {loose : List Str} {XP : (Str → Option Value) → Heap → Prop} {YP : World → Heap → Prop} {d : DefRec} {K : Params → PySem.W.Frag} (hn : l.most = some 63) (hdf : d.params.defaults = [])
    (hY : ∀ (w : World) (h : Heap), YP w h → (K w.params).In h)
    (F : ∀ (w : World) (mg : Str → Option Value) (fa : Addr) (h : Heap), (K w.params).In h → h.Ns mainGlobals mg → mg d.name = some (.ref fa) →
      ∃ fd : FuncData, (∀ (s : Shared) (u : Value), BindsTo s fd ⟨[u], []⟩ [("_law_script", u)]) ∧ ∀ base : Heap, (K w.params).In base → base.Ns mainGlobals mg → FnOk l.prog w (K w.params) mg base CX0 6 fa fd ["_law_script"] (sp_law (K w.params))) :
    PySem.W.WalkO q loose XP YP l.row.toRowW d [] (fun f vs => PySem.call f vs) :=
  L2.walk_of (n := 63) (k := 6) (x := "_law_script") (CX := fun _ => CX0) (sp := fun w => sp_law (K w.params)) hn (by decide) hdf ⟨rfl, by decide, by decide⟩ hY F (fun _ _ a ns hl _ hS => ⟨a, ns, rfl, hS, hl, fun _ => rfl⟩) fun _ _ _ _ _ z => z
end S

open PySem PySem.W PyProof.Rows in
set_option maxRecDepth 100000 in
set_option maxHeartbeats 0 in
theorem PySem.Challenge.cw_splitseed_k54_rows_laid_and_undone_holds : PySem.Challenge.rw_splitseed_k54_rows_laid_and_undone.Holds := by
  w_on; o_law; k_head; (case hw => w_witness2)
  k_fill
  refine S.walk (l := PySem.Challenge.rw_splitseed_k54_rows_laid_and_undone) rfl rfl (fun w h Y => PySem.W.kIn_of Y) ?F
  case F =>
    intro w mg fa h KX G hmg
    refine' S.all_mk KX G hmg ?a1 ?l1 ?c1 ?k1 ?a2 ?l2 ?c2 ?k2 ?a3 ?l3 ?c3 ?k3 ?a4 ?l4 ?c4 ?k4 ?a5 ?l5 ?c5 ?k5 ?a6 ?l6 ?c6 ?k6 ?a7 ?l7 ?c7 ?k7 ?a8 ?l8 ?c8 ?k8 ?a9 ?l9 ?c9 ?k9 ?a10 ?l10 ?c10 ?k10 ?a11 ?l11 ?c11 ?k11 ?a12 ?l12 ?c12 ?k12 ?a13 ?l13 ?c13 ?k13 ?a14 ?l14 ?c14 ?k14 ?a15 ?l15 ?c15 ?k15 ?a16 ?l16 ?c16 ?k16 ?a17 ?l17 ?c17 ?k17 ?z_len ?z_max ?z_min ?z_all ?z_isinstance ?z_int ?z_bool ?z_list ?z_tuple ?z_range ?z_enumerate ?z_zip ?y_MOST_LAID
    (case a1 => k_is)
    (case l1 => k_is)
    (case c1 => k_is)
    (case k1 => k_is)
    (case a2 => k_is)
    (case l2 => k_is)
    (case c2 => k_is)
    (case k2 => k_is)
    (case a3 => k_is)
    (case l3 => k_is)
    (case c3 => k_is)
    (case k3 => k_is)
    (case a4 => k_is)
    (case l4 => k_is)
    (case c4 => k_is)
    (case k4 => k_is)
    (case a5 => k_is)
    (case l5 => k_is)
    (case c5 => k_is)
    (case k5 => k_is)
    (case a6 => k_is)
    (case l6 => k_is)
    (case c6 => k_is)
    (case k6 => k_is)
    (case a7 => k_is)
    (case l7 => k_is)
    (case c7 => k_is)
    (case k7 => k_is)
    (case a8 => k_is)
    (case l8 => k_is)
    (case c8 => k_is)
    (case k8 => k_is)
    (case a9 => k_is)
    (case l9 => k_is)
    (case c9 => k_is)
    (case k9 => k_is)
    (case a10 => k_is)
    (case l10 => k_is)
    (case c10 => k_is)
    (case k10 => k_is)
    (case a11 => k_is)
    (case l11 => k_is)
    (case c11 => k_is)
    (case k11 => k_is)
    (case a12 => k_is)
    (case l12 => k_is)
    (case c12 => k_is)
    (case k12 => k_is)
    (case a13 => k_is)
    (case l13 => k_is)
    (case c13 => k_is)
    (case k13 => k_is)
    (case a14 => k_is)
    (case l14 => k_is)
    (case c14 => k_is)
    (case k14 => k_is)
    (case a15 => k_is)
    (case l15 => k_is)
    (case c15 => k_is)
    (case k15 => k_is)
    (case a16 => k_is)
    (case l16 => k_is)
    (case c16 => k_is)
    (case k16 => k_is)
    (case a17 => k_is)
    (case l17 => k_is)
    (case c17 => k_is)
    (case k17 => k_is)
    (case z_len => k_is)
    (case z_max => k_is)
    (case z_min => k_is)
    (case z_all => k_is)
    (case z_isinstance => k_is)
    (case z_int => k_is)
    (case z_bool => k_is)
    (case z_list => k_is)
    (case z_tuple => k_is)
    (case z_range => k_is)
    (case z_enumerate => k_is)
    (case z_zip => k_is)
    (case y_MOST_LAID => k_is)
#print axioms PySem.Challenge.cw_splitseed_k54_rows_laid_and_undone_holds