import PyProof.Rows.All
import Wide.All
import OpenK.AllK
import Wide.FinOn
import HandS.ForMost
import HandS.Conv
import HandS.RevRange
import HandS.WideBits
import HandS.Wide
import HandS.IsInst
import HandS.TupLe
import HandS.Zip
import HandS.Codes
import PySem.Challenge.RW_splitseed_k56_next_sets
set_option Elab.async false
set_option linter.all false
set_option maxRecDepth 100000
set_option maxHeartbeats 200000
namespace S
open PySem L2
/-! ### my own small words -/
theorem ifT {c : Bool} {A B : Prop} (hc : c = true) (h : A) : if c = true then A else B := by rw [if_pos hc]; exact h
theorem ifF {c : Bool} {A B : Prop} (hc : c = false) (h : B) : if c = true then A else B := by
  rw [hc, if_neg Bool.false_ne_true]; exact h
theorem _root_.L2.Same.g {H H' : Hp} {b : Addr} {o : HO} (s : Same H H') (h : H b = some o) : H' b = some o := s b o h
theorem ne_nn {H : Hp} {a b : Addr} {o : HO} (h' : H b = none) (h : H a = some o) : a ≠ b := ne_of_none h h'
/-- all but what stands at a is kept -/
def Fr (a : Addr) (H H' : Hp) : Prop := ∀ b o, b ≠ a → H b = some o → H' b = some o
theorem Fr.g {a : Addr} {H H' : Hp} {b : Addr} {o : HO} (f : Fr a H H') (n : b ≠ a) (h : H b = some o) : H' b = some o := f b o n h
theorem Fr.refl (a : Addr) (H : Hp) : Fr a H H := fun _ _ _ h => h
theorem Fr.trans {a : Addr} {H H1 H2 : Hp} (f : Fr a H H1) (g : Fr a H1 H2) : Fr a H H2 := fun b o n h => g b o n (f b o n h)
theorem Fr.ofSame {a : Addr} {H H' : Hp} (s : Same H H') : Fr a H H' := fun b o _ h => s b o h
theorem Fr.put {a : Addr} {H : Hp} {o : HO} : Fr a H (upd H a o) := fun b u n h => by rw [upd_ne n]; exact h
theorem _root_.L2.Same.new {H : Hp} {p : Addr} {o : HO} (h : H p = none) : Same H (upd H p o) := fun b u e => by
  rw [upd_ne (ne_of_none e h)]; exact e
/-- an object that H does not know may change -/
theorem _root_.L2.Same.mut {H H' : Hp} {p : Addr} {o : HO} (e : Same H H') (h : H p = none) : Same H (upd H' p o) := fun b u q => by
  rw [upd_ne (ne_of_none q h)]; exact e b u q
theorem Fr.mut {a : Addr} {H H' : Hp} {p : Addr} {o : HO} (e : Fr a H H') (h : H p = none) : Fr a H (upd H' p o) := fun b u n q => by
  rw [upd_ne (ne_of_none q h)]; exact e b u n q
theorem Fr.free {a p : Addr} {H H' : Hp} {o : HO} (f : Fr a H H') (ha : H' a = some o) (h : H' p = none) : H p = none := by
  cases q : H p with
  | none => rfl
  | some u =>
    have n : p ≠ a := fun e => by rw [e, ha] at h; cases h
    rw [f p u n q] at h; cases h
theorem _root_.L2.Same.tup {K : PySem.W.Frag} {H H' : Hp} {a : Addr} {xs : List V} (e : Same H H') : SqT K H a xs → SqT K H' a xs
  | .inl (.inl h) => .inl (.inl (e _ _ h))
  | .inl (.inr ⟨o, h⟩) => .inl (.inr ⟨o, e _ _ h⟩)
  | .inr h => .inr h
abbrev wl (x y z : Int) : HO := .lst [.int x, .int y, .int z]
/-! ### kinds of things -/
inductive Kd where | non | bl | int | str | lst | tup | dct
  deriving DecidableEq
def Kd.nm : Kd → String
  | .non => "NoneType" | .bl => "bool" | .int => "int" | .str => "str" | .lst => "list" | .tup => "tuple" | .dct => "dict"
def Kn (K : PySem.W.Frag) (H : Hp) (x : V) (k : Kd) : Prop := TyX K H x (.type k.nm)
theorem kb_int (k : Kd) : kitB k.nm "int" = some (decide (k = .int ∨ k = .bl)) := by cases k <;> decide +kernel
theorem kb_bool (k : Kd) : kitB k.nm "bool" = some (decide (k = .bl)) := by cases k <;> decide +kernel
theorem kb_str (k : Kd) : kitB k.nm "str" = some (decide (k = .str)) := by cases k <;> decide +kernel
theorem kb_list (k : Kd) : kitB k.nm "list" = some (decide (k = .lst)) := by cases k <;> decide +kernel
theorem kb_tuple (k : Kd) : kitB k.nm "tuple" = some (decide (k = .tup)) := by cases k <;> decide +kernel
theorem kb_dict (k : Kd) : kitB k.nm "dict" = some (decide (k = .dct)) := by cases k <;> decide +kernel
theorem kn_int {K : PySem.W.Frag} {H : Hp} (i : Int) : Kn K H (.int i) .int := .base (.int i)
theorem kn_bl {K : PySem.W.Frag} {H : Hp} (b : Bool) : Kn K H (.bl b) .bl := .base (.bl b)
theorem kn_non {K : PySem.W.Frag} {H : Hp} : Kn K H .non .non := .base .non
theorem kn_str {K : PySem.W.Frag} {H : Hp} (x : Str) : Kn K H (.str x) .str := .base (.str x)
theorem kn_lst {K : PySem.W.Frag} {H : Hp} {a : Addr} {xs : List V} (e : H a = some (.lst xs)) : Kn K H (.ref a) .lst := .base (.lst e)
theorem kn_tup {K : PySem.W.Frag} {H : Hp} {a : Addr} {xs : List V} (e : H a = some (.tup xs)) : Kn K H (.ref a) .tup := .base (.tup e)
theorem kn_dK {K : PySem.W.Frag} {H : Hp} {a : Addr} {xs : List (Key × V)} (e : H a = some (.dK xs)) : Kn K H (.ref a) .dct := .base (.dK e)
def isI : V → Bool | .int _ => true | _ => false
def isB : V → Bool | .bl _ => true | _ => false
def isS : V → Bool | .str _ => true | _ => false
theorem Kn.isI {K : PySem.W.Frag} {H : Hp} {x : V} {k : Kd} (h : Kn K H x k) : S.isI x = decide (k = .int) := by
  unfold Kn at h
  generalize e : Value.type k.nm = u at h
  cases h with
  | base b => cases b <;> (cases k <;> first | rfl | (exfalso; revert e; simp [Kd.nm]))
  | _ => cases k <;> first | rfl | (exfalso; revert e; simp [Kd.nm])
theorem Kn.isB {K : PySem.W.Frag} {H : Hp} {x : V} {k : Kd} (h : Kn K H x k) : S.isB x = decide (k = .bl) := by
  unfold Kn at h
  generalize e : Value.type k.nm = u at h
  cases h with
  | base b => cases b <;> (cases k <;> first | rfl | (exfalso; revert e; simp [Kd.nm]))
  | _ => cases k <;> first | rfl | (exfalso; revert e; simp [Kd.nm])
theorem Kn.isS {K : PySem.W.Frag} {H : Hp} {x : V} {k : Kd} (h : Kn K H x k) : S.isS x = decide (k = .str) := by
  unfold Kn at h
  generalize e : Value.type k.nm = u at h
  cases h with
  | base b => cases b <;> (cases k <;> first | rfl | (exfalso; revert e; simp [Kd.nm]))
  | _ => cases k <;> first | rfl | (exfalso; revert e; simp [Kd.nm])
def wb (x : V) (lo hi : Int) : Bool := match x with | .int i => decide (lo ≤ i) && decide (i ≤ hi) | _ => false
/-! ### a list or a tuple -/
def sq (b : Bool) (xs : List V) : HO := if b then .tup xs else .lst xs
def Itb (b : Bool) (K : PySem.W.Frag) (a : Addr) : It := if b then Itt K a else Itl K a
def iSeq (K : PySem.W.Frag) (tl : TE) : TI := fun σ H R => tl σ H fun x H1 => ∃ (a : Addr) (b : Bool) (xs : List V), x = .ref a ∧ H1 a = some (sq b xs) ∧ R (Itb b K a) H1
theorem pi_seq {X : Cx} {tg l : Expr} {tl : TE} (he : PE X l tl) : PI X tg l (iSeq X.K tl) := by
  constructor
  intro ps st σ H R inv h
  refine thn (he.run ps st σ H _ inv h) ?_
  rintro v st1 ⟨x, H1, inv1, rel, a, b, xs, rfl, hq, q⟩
  cases rel
  cases b with
  | false =>
    obtain ⟨its, _, li, _⟩ := inv1.list (SqL.of (K := X.K) hq)
    exact wpAny_pyIter_list li.isList (pi_one (tk := st1.toks) inv1 _ (turn_list a _) ⟨_, Heap.get?_push_size _ rfl, rfl, rfl⟩ q)
  | true =>
    obtain ⟨its, _, tu, _⟩ := inv1.tuple (SqT.of (K := X.K) hq)
    have tu : st1.heap.IsTuple a its.toArray := tu
    exact wpAny_pyIter_tuple tu (pi_one (tk := st1.toks) inv1 _ (turn_tuple a _) ⟨_, Heap.get?_push_size _ rfl, rfl, rfl⟩ q)
theorem for_sq {K : PySem.W.Frag} {a : Addr} {b : Bool} {xs : List V} {g : TG} {tb : TS} {D : Ends} {σ : L2.St} {H : Hp} (Pv : Nat → L2.St → Hp → Prop) (h0 : Pv 0 σ H) (hl : ∀ i σ H, i ≤ xs.length → Pv i σ H → H a = some (sq b xs))
    (turn : ∀ i x σ H, xs[i]? = some x → Pv i σ H → g x σ H fun σ2 H2 => tb ⟨Pv (i + 1), D.rt, D.nx, Pv (i + 1)⟩ σ2 H2) (fin : ∀ σ H, Pv xs.length σ H → D.nx σ H) :
    tFor (fun _ H R => R (Itb b K a) H) g tb D σ H := by
  cases b with
  | false => exact for_list (K := K) (a := a) (xs := xs) Pv h0 (fun i σ H hi p => SqL.of (hl i σ H hi p)) turn fin
  | true => exact for_tup (K := K) (a := a) (xs := xs) Pv h0 (fun i σ H hi p => SqT.of (hl i σ H hi p)) turn fin
theorem take_more {α : Type} {l : List α} {i : Nat} {x : α} (h : l[i]? = some x) : l.take (i + 1) = l.take i ++ [x] := by
  rw [List.take_add_one, h]; rfl
/-- a comprehension's turns, from the new list at D on -/
def LcOk (J : It) (g : TG) (tt : TT) (te : TE) (vs : List Nat) (σ : L2.St) (H1 : Hp) (D : Addr) (Qd : Hp → Prop) : Prop :=
  ∃ W : Nat → Nat → Hp → Prop, (∃ m, W 0 m (upd H1 D (.lst []))) ∧ (∀ (i m : Nat) (h : Hp), W i m h →
    (J.stop i h ∧ Qd h) ∨ (J.go i h ∧ ∃ Nx : Hp → Prop, (∀ h', Nx h' → ∃ m', m' < m ∧ W (i + 1) m' h') ∧
      (∀ x h', J.yld i h x h' → g x (wipe σ vs) h' (fun s2 h2 => wipe s2 vs = wipe σ vs ∧
        tt s2 h2 (fun k h3 => if k = true then te s2 h3 (fun y h4 =>
          ∃ acc, h4 D = some (.lst acc) ∧ acc.length < sizeLine ∧ Nx (upd h4 D (.lst (acc ++ [y])))) else Nx h3)))))
/-- a comprehension over a list or a tuple whose element and test make new things alone -/
theorem lcP {α : Type} {K : PySem.W.Frag} {a : Addr} {b : Bool} {e : α → V} {as : List α} {j : Nat} {tt : TT} {te : TE} {vs : List Nat} {σ : L2.St} {H1 : Hp} {Qd : Addr → Hp → Prop} (t : α → Bool) (f : α → V)
    (hsrc : H1 a = some (sq b (as.map e))) (hlen : as.length ≤ 1000000) (hw : ∀ x, wipe ((wipe σ vs).set j (some x)) vs = wipe σ vs)
    (hs : ∀ (x : α) (H' : Hp), x ∈ as → Same H1 H' → ∀ R : Bool → Hp → Prop, (∀ H2, Same H' H2 → R (t x) H2) → tt ((wipe σ vs).set j (some (e x))) H' R)
    (he : ∀ (x : α) (H' : Hp), x ∈ as → t x = true → Same H1 H' → ∀ R : VK, (∀ H2, Same H' H2 → R (f x) H2) → te ((wipe σ vs).set j (some (e x))) H' R)
    (fin : ∀ D H', H1 D = none → Same H1 H' → H' D = some (.lst ((as.filter t).map f)) → Qd D H') :
    ∀ D, H1 D = none → LcOk (Itb b K a) (gName j) tt te vs σ H1 D (Qd D) := by
  intro D hD
  have key : ∀ i y H, (as.map e)[i]? = some y → (Same H1 H ∧ H D = some (.lst (((as.take i).filter t).map f))) → gName j y (wipe σ vs) H fun σ2 H2 => wipe σ2 vs = wipe σ vs ∧ tt σ2 H2 fun k H3 =>
      if k = true then te σ2 H3 fun z H4 => ∃ acc, H4 D = some (.lst acc) ∧ acc.length < sizeLine ∧ (Same H1 (upd H4 D (.lst (acc ++ [z]))) ∧ upd H4 D (.lst (acc ++ [z])) D = some (.lst (((as.take (i + 1)).filter t).map f))) else (Same H1 H3 ∧ H3 D = some (.lst (((as.take (i + 1)).filter t).map f))) := by
    intro i y H hy p
    obtain ⟨x, hx, rfl⟩ : ∃ x, as[i]? = some x ∧ y = e x := by
      rw [List.getElem?_map] at hy
      cases q : as[i]? with
      | none => rw [q] at hy; cases hy
      | some x => rw [q] at hy; exact ⟨x, rfl, (Option.some.inj hy).symm⟩
    have hm : x ∈ as := List.mem_of_getElem? hx
    have e := take_more hx
    refine ⟨hw _, hs x H hm p.1 _ fun H2 s2 => ?_⟩
    refine ite2 (fun c => ?y) (fun c => ?n)
    case y =>
      refine he x H2 hm c (p.1.trans s2) _ fun H3 s3 => ?_
      refine ⟨_, s3 _ _ (s2 _ _ p.2), ?_, Same.mut ((p.1.trans s2).trans s3) hD, ?_⟩
      · have h1 := List.length_filter_le t (as.take i)
        have h2 : (as.take i).length ≤ as.length := by rw [List.length_take]; omega
        rw [List.length_map]
        exact Nat.lt_of_le_of_lt (Nat.le_trans h1 (Nat.le_trans h2 hlen)) (by decide)
      · rw [upd_same, e, List.filter_append, List.map_append]
        simp [List.filter_cons, c]
    case n =>
      refine ⟨p.1.trans s2, ?_⟩
      rw [s2 _ _ p.2, e, List.filter_append, List.map_append]
      simp [List.filter_cons, c]
  have done : ∀ H, (Same H1 H ∧ H D = some (.lst (((as.take (as.map e).length).filter t).map f))) → Qd D H := by
    intro H p
    have h := p.2
    rw [List.length_map, List.take_length] at h
    exact fin D H hD p.1 h
  cases b with
  | false => exact lc_list (K := K) (a := a) (xs := as.map e) (fun i H => Same H1 H ∧ H D = some (.lst (((as.take i).filter t).map f))) ⟨Same.new hD, upd_same⟩ (fun i H _ p => SqL.of (p.1 _ _ hsrc)) key done
  | true => exact lc_tup (K := K) (a := a) (xs := as.map e) (fun i H => Same H1 H ∧ H D = some (.lst (((as.take i).filter t).map f))) ⟨Same.new hD, upd_same⟩ (fun i H _ p => SqT.of (p.1 _ _ hsrc)) key done
/-- the same over a range -/
theorem lcR {lo : Int} {n : Nat} {j : Nat} {tt : TT} {te : TE} {vs : List Nat} {σ : L2.St} {H1 : Hp} {Qd : Addr → Hp → Prop} (t : Nat → Bool) (f : Nat → V)
    (hlen : n ≤ 1000000) (hw : ∀ x, wipe ((wipe σ vs).set j (some x)) vs = wipe σ vs)
    (hs : ∀ (x : Nat) (H' : Hp), x < n → Same H1 H' → ∀ R : Bool → Hp → Prop, (∀ H2, Same H' H2 → R (t x) H2) → tt ((wipe σ vs).set j (some (.int (lo + x)))) H' R)
    (he : ∀ (x : Nat) (H' : Hp), x < n → t x = true → Same H1 H' → ∀ R : VK, (∀ H2, Same H' H2 → R (f x) H2) → te ((wipe σ vs).set j (some (.int (lo + x)))) H' R)
    (fin : ∀ D H', H1 D = none → Same H1 H' → H' D = some (.lst (((List.range n).filter t).map f)) → Qd D H') :
    ∀ D, H1 D = none → LcOk (Itr lo n) (gName j) tt te vs σ H1 D (Qd D) := by
  intro D hD
  refine lc_range (lo := lo) (n := n) (fun i H => Same H1 H ∧ H D = some (.lst (((List.range i).filter t).map f))) ⟨Same.new hD, upd_same⟩ (fun x H hx p => ?_) (fun H p => fin D H hD p.1 p.2)
  refine ⟨hw _, hs x H hx p.1 _ fun H2 s2 => ?_⟩
  refine ite2 (fun c => ?y) (fun c => ?n)
  case y =>
    refine he x H2 hx c (p.1.trans s2) _ fun H3 s3 => ?_
    refine ⟨_, s3 _ _ (s2 _ _ p.2), ?_, Same.mut ((p.1.trans s2).trans s3) hD, ?_⟩
    · have h1 := List.length_filter_le t (List.range x)
      rw [List.length_range] at h1
      rw [List.length_map]
      exact Nat.lt_of_le_of_lt (Nat.le_trans h1 (Nat.le_trans (Nat.le_of_lt hx) hlen)) (by decide)
    · rw [upd_same, List.range_succ, List.filter_append, List.map_append]
      simp [List.filter_cons, c]
  case n =>
    refine ⟨p.1.trans s2, ?_⟩
    rw [s2 _ _ p.2, List.range_succ, List.filter_append, List.map_append]
    simp [List.filter_cons, c]
theorem filter_yes {α : Type} (l : List α) : l.filter (fun _ => true) = l := List.filter_eq_self.mpr fun _ _ => rfl
theorem kb_lt {K : PySem.W.Frag} (k : Kd) : PySem.W.kitAny K (.type k.nm) [.type "list", .type "tuple"] = some (decide (k = .lst ∨ k = .tup)) := by
  refine kitAny_cons (kit_ty (kb_list k)) (fun h => kitAny_cons (b := decide (k = .tup)) (kit_ty (kb_tuple k)) (fun h2 => ?_) (fun h2 => ?_)) (fun h => ?_)
  · have h1 : ¬ k = .lst := of_decide_eq_false h
    have h3 : ¬ k = .tup := of_decide_eq_false h2
    rw [kitAny_nil, decide_eq_false (fun q => q.elim h1 h3)]
  · exact decide_eq_true (.inr (of_decide_eq_true h2))
  · exact decide_eq_true (.inl (of_decide_eq_true h))
/-- sum of a list or a tuple of ints -/
def rSumS (K : PySem.W.Frag) : List V → Hp → VK → Prop := fun vs H Q => ∃ (a : Addr) (b : Bool) (ns : List Int), vs = [V.ref a] ∧ H a = some (sq b (ns.map V.int)) ∧ Q (.int ns.sum) H
theorem cr_sumS {X : Cx} (hc : X.calm = true) : CallR X (.builtin "sum") (rSumS X.K) := by
  intro pins s σ H vs us Q I r h
  obtain ⟨a, b, ns, rfl, hs, q⟩ := h
  cases b with
  | false => exact cr_sum hc pins s σ H _ us Q I r ⟨a, ns, rfl, SqL.of hs, q⟩
  | true =>
    obtain ⟨its, rv, hl, _⟩ := I.tuple (SqT.of (K := X.K) hs)
    rw [Vals.ref1 r]
    have hi := rv.ints
    obtain ⟨xs, e⟩ := hi.allInts.items
    have hn : PySem.numsOf (intItems xs).toList = ns := by rw [← e]; exact hi.numsOf
    rw [PySem.nums_intItems] at hn
    have hl : s.heap.IsTuple a its.toArray := hl
    rw [e] at hl
    refine PySem.W.ktm_sumG (I.ok.hd hc) hl fun h' tk t' hk => ?_
    rw [preSum_eq, List.take_of_length_le (by simp), hn]
    exact ⟨.int _, H, I.kept hk, ⟨_, rfl⟩, q⟩
theorem tC_i {v : V} {σ : L2.St} {H : Hp} {Q : VK} (h : Q v H) : tC v σ H Q := h
theorem tNil_i {σ : L2.St} {H : Hp} {Q : List V → Hp → Prop} (h : Q [] H) : tNil σ H Q := h
theorem tCons_i {ta : TE} {tr : TA} {σ : L2.St} {H : Hp} {Q : List V → Hp → Prop} (h : ta σ H fun x H1 => tr σ H1 fun xs H2 => Q (x :: xs) H2) : tCons ta tr σ H Q := h
theorem sq_or {K : PySem.W.Frag} {H : Hp} {p : Addr} {b : Bool} {xs : List V} (h : H p = some (sq b xs)) : SqL K H p xs ∨ SqT K H p xs := by
  cases b with
  | false => exact .inl (SqL.of h)
  | true => exact .inr (SqT.of h)
theorem ix_sq {K : PySem.W.Frag} {H : Hp} {p : Addr} {b : Bool} {xs : List V} {i : Int} {v : V} {Q : VK} (h : H p = some (sq b xs)) (hi : atI xs i = some v) (q : Q v H) : rIx K (.ref p) (.int i) H Q := by
  cases b with
  | false => exact .inl ⟨p, xs, i, v, rfl, rfl, SqL.of h, hi, q⟩
  | true => exact .inr (.inl ⟨p, xs, i, v, rfl, rfl, SqT.of h, hi, q⟩)
theorem kn_sq {K : PySem.W.Frag} {H : Hp} {p : Addr} {b : Bool} {xs : List V} (h : H p = some (sq b xs)) : Kn K H (.ref p) (if b then .tup else .lst) := by
  cases b with
  | false => exact kn_lst h
  | true => exact kn_tup h
/-- a slice of a list or a tuple: a new one, or the tuple itself -/
def rSlS (K : PySem.W.Frag) : V → Option Int → Option Int → Hp → VK → Prop := fun x lo hi H Q => rSlL K x lo hi H Q ∨ rSlT K x lo hi H Q
theorem sl_sq {X : Cx} : SlR X (rSlS X.K) := SlR.or sl_list sl_tup
def rLenS (K : PySem.W.Frag) : List V → Hp → VK → Prop := fun xs H Q => ∃ p ys, xs = [.ref p] ∧ (SqL K H p ys ∨ SqT K H p ys) ∧ Q (.int ys.length) H
def rListOf (K : PySem.W.Frag) : List V → Hp → VK → Prop := fun xs H Q => ∃ p ys, xs = [.ref p] ∧ (SqL K H p ys ∨ SqT K H p ys) ∧ ∀ l, H l = none → Q (.ref l) (upd H l (.lst ys))
def rTupleOf (K : PySem.W.Frag) : List V → Hp → VK → Prop := fun xs H Q => ∃ p ys, xs = [.ref p] ∧ ((SqL K H p ys ∧ ∀ l, H l = none → Q (.ref l) (upd H l (.tup ys))) ∨ (SqT K H p ys ∧ Q (.ref p) H))
theorem _root_.L2.Same.fr {p : Addr} {H H1 H2 : Hp} (s : Same H H1) (n : H p = none) (f : Fr p H1 H2) : Same H H2 := fun b o h => f b o (ne_of_none h n) (s b o h)
theorem _root_.L2.Same.mk {H H1 : Hp} {p : Addr} {o : HO} (s : Same H H1) (n : H1 p = none) : Same H (upd H1 p o) := s.mut (s.free n)
theorem Fr.mk {a : Addr} {H H1 : Hp} {p : Addr} {o u : HO} (s : Fr a H H1) (ha : H1 a = some u) (n : H1 p = none) : Fr a H (upd H1 p o) := s.mut (s.free ha n)
theorem Fr.same {a : Addr} {H H1 H2 : Hp} (f : Fr a H H1) (s : Same H1 H2) : Fr a H H2 := fun b o n h => s b o (f b o n h)
/-- sums of beginnings -/
def SS (ns : List Int) (i : Nat) : Int := (ns.take i).sum
theorem SS_zero (ns : List Int) : SS ns 0 = 0 := rfl
theorem SS_succ {ns : List Int} {i : Nat} {z : Int} (h : ns[i]? = some z) : SS ns (i + 1) = SS ns i + z := sum_take h
theorem SS_all (ns : List Int) : SS ns ns.length = ns.sum := by unfold SS; rw [List.take_length]
theorem get_lt {α : Type} {l : List α} {i : Nat} {x : α} (h : l[i]? = some x) : i < l.length := (List.getElem?_eq_some_iff.mp h).1
theorem get_of {α : Type} {l : List α} {i : Nat} (h : i < l.length) : ∃ x, l[i]? = some x ∧ x ∈ l := ⟨l[i], List.getElem?_eq_getElem h, List.getElem_mem h⟩
theorem SS_mono {ns : List Int} (h : ∀ n ∈ ns, 0 ≤ n) : ∀ {i j : Nat}, i ≤ j → SS ns i ≤ SS ns j := by
  intro i j hij
  induction j with
  | zero => have : i = 0 := by omega
            subst this; exact Int.le_refl _
  | succ j ih =>
    by_cases e : i = j + 1
    · subst e; exact Int.le_refl _
    · have h1 := ih (by omega)
      by_cases hj : j < ns.length
      · obtain ⟨z, hz, hm⟩ := get_of hj
        have := h z hm
        rw [SS_succ hz]; omega
      · have e2 : SS ns (j + 1) = SS ns j := by
          unfold SS; rw [List.take_of_length_le (by omega), List.take_of_length_le (by omega)]
        rw [e2]; exact h1
theorem SS_nn {ns : List Int} (h : ∀ n ∈ ns, 0 ≤ n) (i : Nat) : 0 ≤ SS ns i := SS_mono h (Nat.zero_le i)
theorem cut_to {xs : List V} {k : Nat} (h1 : k ≤ xs.length) : cutV xs none (some (k : Int)) = xs.take k := by
  unfold cutV
  rw [HT.sIx_none, HT.sIx_nat, Nat.min_eq_left h1]; rfl
theorem cut_from {xs : List V} {k : Nat} (h1 : k ≤ xs.length) : cutV xs (some (k : Int)) none = xs.drop k := by
  unfold cutV
  rw [HT.sIx_none, HT.sIx_nat, Nat.min_eq_left h1, List.take_of_length_le]
  rw [List.length_drop]; exact Nat.le_refl _
theorem cut_last {xs : List V} (h : 0 < xs.length) : cutV xs none (some (-1)) = xs.dropLast := by
  unfold cutV
  have e : HT.sIx xs.length xs.length (some (-1)) = xs.length - 1 := by
    show (if (-1 : Int) < 0 then ((-1 : Int) + (xs.length : Int)).toNat else min (-1 : Int).toNat xs.length) = xs.length - 1
    rw [if_pos (by decide)]; omega
  rw [HT.sIx_none, e, List.dropLast_eq_take]; rfl
/-- an int at a place that lies in the list -/
theorem at_int {ns : List Int} {i : Int} {j : Nat} {z : Int} (e : i = (j : Int)) (h : ns[j]? = some z) : atI (ns.map V.int) i = some (.int z) :=
  at_of e (by rw [List.getElem?_map, h]; rfl)
theorem at_end {xs : List V} {v : V} (h : xs.getLast? = some v) : atI xs (-1) = some v := by
  obtain ⟨ys, rfl⟩ := List.getLast?_eq_some_iff.mp h
  exact atI_last ys v
/-! ### == of lists and tuples of ints -/
def dI (b : Bool) (ns : List Int) : PyData := if b then .tuple (ns.map PyData.int) else .list (ns.map PyData.int)
theorem dpAll_ints {K : PySem.W.Frag} {H : Hp} : ∀ ns : List Int, DpAll K H (ns.map V.int) (ns.map PyData.int)
  | [] => .nil
  | n :: r => .cons (.int n) (dpAll_ints r)
theorem dp_ints {K : PySem.W.Frag} {H : Hp} {p : Addr} {b : Bool} {ns : List Int} (h : H p = some (sq b (ns.map V.int))) : Dp K H (.ref p) (dI b ns) := by
  cases b with
  | false => exact .lst (SqL.of h) (dpAll_ints ns)
  | true => exact .tup (SqT.of h) (dpAll_ints ns)
theorem lay_ints : ∀ ns : List Int, PyData.canLayAll0 (ns.map PyData.int) = true
  | [] => rfl
  | n :: r => by
    show (PyData.canLay0 (.int n) && PyData.canLayAll0 (r.map PyData.int)) = true
    rw [lay_ints r]; rfl
theorem dep_ints : ∀ ns : List Int, PyData.depthAll (ns.map PyData.int) = 0
  | [] => rfl
  | n :: r => by
    show max (PyData.depth (.int n)) (PyData.depthAll (r.map PyData.int)) = 0
    rw [dep_ints r]; rfl
theorem sh_ints (b : Bool) (ns : List Int) : SeqAt.shaped (dI b ns) = true := by
  unfold SeqAt.shaped
  cases b with
  | false =>
    show (PyData.canLayAll0 (ns.map PyData.int) && decide (PyData.depthAll (ns.map PyData.int) + 1 ≤ 64)) = true
    rw [lay_ints, dep_ints]; rfl
  | true =>
    show (PyData.canLayAll0 (ns.map PyData.int) && decide (PyData.depthAll (ns.map PyData.int) + 1 ≤ 64)) = true
    rw [lay_ints, dep_ints]; rfl
theorem eqvAll_ints : ∀ ns ms : List Int, PyData.eqvAll (ns.map PyData.int) (ms.map PyData.int) = decide (ns = ms)
  | [], [] => rfl
  | [], _ :: _ => rfl
  | _ :: _, [] => rfl
  | n :: r, m :: t => by
    show ((n == m) && PyData.eqvAll (r.map PyData.int) (t.map PyData.int)) = _
    rw [eqvAll_ints r t]
    by_cases h1 : n = m
    · by_cases h2 : r = t
      · subst h1 h2; simp
      · simp [h1, h2]
    · simp [h1]
theorem eqv_ints (b c : Bool) (ns ms : List Int) : PyData.eqv (dI b ns) (dI c ms) = (decide (b = c) && decide (ns = ms)) := by
  cases b <;> cases c
  · exact (eqvAll_ints ns ms).trans (by simp)
  · rfl
  · rfl
  · exact (eqvAll_ints ns ms).trans (by simp)
theorem eqI {K : PySem.W.Frag} {H : Hp} {p q : Addr} {b c : Bool} {ns ms : List Int} {Q : VK} (hp : H p = some (sq b (ns.map V.int))) (hq : H q = some (sq c (ms.map V.int))) (k : Q (.bl (decide (b = c) && decide (ns = ms))) H) : rEqD K (.ref p) (.ref q) H Q :=
  ⟨_, _, dp_ints hp, dp_ints hq, sh_ints _ _, sh_ints _ _, by rw [eqv_ints]; exact k⟩
theorem neI {K : PySem.W.Frag} {H : Hp} {p q : Addr} {b c : Bool} {ns ms : List Int} {Q : VK} (hp : H p = some (sq b (ns.map V.int))) (hq : H q = some (sq c (ms.map V.int))) (k : Q (.bl (!(decide (b = c) && decide (ns = ms)))) H) : rNeD K (.ref p) (.ref q) H Q :=
  ⟨_, _, dp_ints hp, dp_ints hq, sh_ints _ _, sh_ints _ _, by rw [eqv_ints]; exact k⟩
theorem sqF {xs : List V} : (HO.lst xs) = sq false xs := rfl
theorem sqTr {xs : List V} : (HO.tup xs) = sq true xs := rfl
theorem ix_ok {n : Nat} {i : Int} (h0 : 0 ≤ i) (h1 : i < n) : ixN n i = some i.toNat := by
  unfold ixN; rw [if_pos h0, if_pos h1]
theorem sum_nn : ∀ {l : List Int}, (∀ n ∈ l, 0 ≤ n) → 0 ≤ l.sum
  | [], _ => Int.le_refl 0
  | a :: r, h => by
    have h1 := h a List.mem_cons_self
    have h2 := sum_nn (l := r) fun n hn => h n (List.mem_cons_of_mem _ hn)
    rw [List.sum_cons]; omega
theorem sum_ge : ∀ {l : List Int} {z : Int}, (∀ n ∈ l, 0 ≤ n) → z ∈ l → z ≤ l.sum
  | a :: r, z, h, hz => by
    have h1 := h a List.mem_cons_self
    have h3 : ∀ n ∈ r, 0 ≤ n := fun n hn => h n (List.mem_cons_of_mem _ hn)
    have h2 := sum_nn h3
    rw [List.sum_cons]
    rcases List.mem_cons.mp hz with rfl | hz
    · omega
    · have := sum_ge h3 hz; omega
theorem mem_set_of {α : Type} {l : List α} {j : Nat} {x u : α} (h : u ∈ l.set j x) : u = x ∨ u ∈ l := by
  rcases List.mem_or_eq_of_mem_set h with h | h
  · exact .inr h
  · exact .inl h
theorem ix_head {α : Type} {x : α} {xs : List α} : ixN (x :: xs).length 0 = some 0 := ix_ok (Int.le_refl 0) (by rw [List.length_cons]; omega)
theorem at_head {α : Type} {x : α} {xs : List α} : atI (x :: xs) 0 = some x := by
  unfold atI; rw [ix_head]; rfl
theorem map_true {α : Type} (l : List α) : l.map (fun _ => V.bl true) = (l.map fun _ => true).map V.bl := by rw [List.map_map]; rfl
theorem all_yes {α : Type} (l : List α) : ((l.map fun _ => true).all id) = true := by
  rw [List.all_eq_true]
  intro x hx
  obtain ⟨_, _, rfl⟩ := List.mem_map.mp hx
  rfl
/-! ### what is wished for more, is got of the same -/
def MoE (t : TE) : Prop := ∀ σ H (Q Q' : VK), (∀ v H1, Q v H1 → Q' v H1) → t σ H Q → t σ H Q'
def MoT (t : TT) : Prop := ∀ σ H (Q Q' : Bool → Hp → Prop), (∀ v H1, Q v H1 → Q' v H1) → t σ H Q → t σ H Q'
def MoA (t : TA) : Prop := ∀ σ H (Q Q' : List V → Hp → Prop), (∀ v H1, Q v H1 → Q' v H1) → t σ H Q → t σ H Q'
def MoR (r : R2) : Prop := ∀ x y H (Q Q' : VK), (∀ v H1, Q v H1 → Q' v H1) → r x y H Q → r x y H Q'
def MoC (r : List V → Hp → VK → Prop) : Prop := ∀ xs H (Q Q' : VK), (∀ v H1, Q v H1 → Q' v H1) → r xs H Q → r xs H Q'
theorem mo_var (i : Nat) : MoE (tVar i) := fun _ _ _ _ q ⟨v, e, h⟩ => ⟨v, e, q _ _ h⟩
theorem mo_c (v : V) : MoE (tC v) := fun _ _ _ _ q h => q _ _ h
theorem mo_op {r : R2} {ta tb : TE} (hr : MoR r) (ha : MoE ta) (hb : MoE tb) : MoE (tOp r ta tb) := fun σ H Q Q' q h =>
  ha σ H _ _ (fun x H1 h1 => hb σ H1 _ _ (fun y H2 h2 => hr x y H2 Q Q' q h2) h1) h
theorem mo_cb {r : List V → Hp → VK → Prop} {t : TA} (hr : MoC r) (ha : MoA t) : MoE (tCB r t) := fun σ H Q Q' q h =>
  ha σ H _ _ (fun xs H1 h1 => hr xs H1 Q Q' q h1) h
theorem mo_nil : MoA tNil := fun _ _ _ _ q h => q _ _ h
theorem mo_cons {t : TE} {r : TA} (ht : MoE t) (hr : MoA r) : MoA (tCons t r) := fun σ H Q Q' q h =>
  ht σ H _ _ (fun x H1 h1 => hr σ H1 _ _ (fun xs H2 h2 => q _ _ h2) h1) h
theorem mo_test {t : TE} (ht : MoE t) : MoT (tTest t) := fun σ H Q Q' q h => ht σ H _ _ (fun _ _ ⟨k, e, h1⟩ => ⟨k, e, q _ _ h1⟩) h
theorem mo_b {t : TE} (ht : MoE t) : MoT (tB t) := fun σ H Q Q' q h => ht σ H _ _ (fun _ _ ⟨k, e, h1⟩ => ⟨k, e, q _ _ h1⟩) h
theorem mo_not {t : TT} (ht : MoT t) : MoT (tNot t) := fun σ H Q Q' q h => ht σ H _ _ (fun _ _ h1 => q _ _ h1) h
theorem mo_and {t u : TT} (ht : MoT t) (hu : MoT u) : MoT (tAnd t u) := fun σ H Q Q' q h => ht σ H _ _ (fun k H1 h1 => by
  cases k with
  | true => exact hu σ H1 Q Q' q h1
  | false => exact q _ _ h1) h
theorem mo_or {t u : TT} (ht : MoT t) (hu : MoT u) : MoT (tOr t u) := fun σ H Q Q' q h => ht σ H _ _ (fun k H1 h1 => by
  cases k with
  | true => exact q _ _ h1
  | false => exact hu σ H1 Q Q' q h1) h
theorem mo_rI0 (g : Int → Int → V) : MoR (rI0 g) := fun _ _ _ _ _ q ⟨i, j, e1, e2, h⟩ => ⟨i, j, e1, e2, q _ _ h⟩
theorem mo_rI (C : Int → Int → Prop) (g : Int → Int → V) : MoR (rI C g) := fun _ _ _ _ _ q ⟨i, j, e1, e2, c, h⟩ => ⟨i, j, e1, e2, c, q _ _ h⟩
theorem mo_rEq : MoR rEq := fun _ _ _ _ _ q ⟨e, h⟩ => ⟨e, q _ _ h⟩
theorem mo_rNe : MoR rNe := fun _ _ _ _ _ q ⟨e, h⟩ => ⟨e, q _ _ h⟩
theorem mo_rIxL (K : PySem.W.Frag) : MoR (rIxL K) := fun _ _ _ _ _ q ⟨p, xs, i, v, e1, e2, e3, e4, h⟩ => ⟨p, xs, i, v, e1, e2, e3, e4, q _ _ h⟩
theorem mo_rIxT (K : PySem.W.Frag) : MoR (rIxT K) := fun _ _ _ _ _ q ⟨p, xs, i, v, e1, e2, e3, e4, h⟩ => ⟨p, xs, i, v, e1, e2, e3, e4, q _ _ h⟩
theorem mo_rIx (K : PySem.W.Frag) : MoR (rIx K) := fun _ _ _ _ _ q h => h.elim (fun h => .inl (mo_rIxL K _ _ _ _ _ q h)) (fun h => h.elim (fun h => .inr (.inl (mo_rIxT K _ _ _ _ _ q h)))
  (fun ⟨z, i, c, e1, e2, e3, e4, h⟩ => .inr (.inr ⟨z, i, c, e1, e2, e3, e4, q _ _ h⟩)))
theorem mo_len (K : PySem.W.Frag) : MoC (rLenS K) := fun _ _ _ _ q ⟨p, ys, e1, e2, h⟩ => ⟨p, ys, e1, e2, q _ _ h⟩
theorem mo_neD (K : PySem.W.Frag) : MoR (rNeD K) := fun _ _ _ _ _ q ⟨d, e, a1, a2, a3, a4, h⟩ => ⟨d, e, a1, a2, a3, a4, q _ _ h⟩
theorem mo_eqD (K : PySem.W.Frag) : MoR (rEqD K) := fun _ _ _ _ _ q ⟨d, e, a1, a2, a3, a4, h⟩ => ⟨d, e, a1, a2, a3, a4, q _ _ h⟩
theorem rg_ints {n : Int} : rgV 0 n = ((List.range n.toNat).map (fun i : Nat => (i : Int))).map V.int := by
  unfold rgV
  rw [Int.sub_zero, List.map_map]
  apply List.map_congr_left
  intro i _
  show V.int (0 + (i : Int)) = V.int i
  rw [Int.zero_add]
/-- the numbers below n -/
def below (n : Nat) : List Int := (List.range n).map (fun i : Nat => (i : Int))
theorem below_len (n : Nat) : (below n).length = n := by simp [below]
theorem below_get {n i : Nat} (h : i < n) : (below n)[i]? = some (i : Int) := by
  unfold below; rw [List.getElem?_map, List.getElem?_range h]; rfl
theorem while_mo {c : TT} {tb : TS} {D : Ends} {σ : L2.St} {H : Hp} (Pv : L2.St → Hp → Prop) (μ : L2.St → Hp → Nat) (h0 : Pv σ H)
    (turn : ∀ σ H, Pv σ H → c σ H (fun k H1 => if k = true then tb ⟨fun σ' H' => Pv σ' H' ∧ μ σ' H' < μ σ H, D.rt, D.nx, fun σ' H' => Pv σ' H' ∧ μ σ' H' < μ σ H⟩ σ H1 else D.nx σ H1))
    (mono : MoT c) : tWhile c tb D σ H := while_by Pv μ h0 turn mono
theorem mo_call {sp : Sp} {dvs : List V} {E : XK} {t : TA} (h : ∀ vs H (Q Q' : VK), (∀ v H1, Q v H1 → Q' v H1) → sp vs H Q E → sp vs H Q' E) (ha : MoA t) : MoE (tCall sp dvs E t) := fun σ H Q Q' q hh =>
  ha σ H _ _ (fun xs H1 h1 => h _ H1 Q Q' q h1) hh
theorem seq_ok {n : Nat} {i : Int} (h0 : 0 ≤ i) (h1 : i < n) : seqIndex? i n = some i.toNat := (ixN_seq (ix_ok h0 h1)).1
theorem below_mem {n : Nat} {x : Int} (h : x ∈ below n) : 0 ≤ x ∧ x < n := by
  unfold below at h
  obtain ⟨i, hi, rfl⟩ := List.mem_map.mp h
  have := List.mem_range.mp hi
  omega
theorem below_drop {n m : Nat} {x : Int} (h : x ∈ (below n).drop m) : (m : Int) ≤ x ∧ x < n := by
  obtain ⟨i, hi, e⟩ := List.mem_iff_getElem.mp h
  rw [List.getElem_drop] at e
  have hl : m + i < (below n).length := by
    rw [List.length_drop] at hi
    omega
  have e2 : (below n)[m + i]? = some x := by rw [List.getElem?_eq_getElem hl, e]
  rw [below_get (by rw [below_len] at hl; exact hl)] at e2
  have := Option.some.inj e2
  rw [below_len] at hl
  omega
theorem below_up (n : Nat) : (below n).Pairwise (· < ·) := by
  unfold below
  rw [List.pairwise_map]
  refine List.Pairwise.imp ?_ (List.pairwise_lt_range (n := n))
  intro a b h
  omega
def leT (ns ms : List Int) : Bool := Ob.lexAt (fun j => decide (ns.getD j 0 = ms.getD j 0)) (fun j => decide (ns.getD j 0 ≤ ms.getD j 0)) (decide (ns.length ≤ ms.length)) 0 (min ns.length ms.length)
theorem le_t {K : PySem.W.Frag} {H : Hp} {p q : Addr} {ns ms : List Int} {Q : VK} (hp : H p = some (.tup (ns.map V.int))) (hq : H q = some (.tup (ms.map V.int))) (k : Q (.bl (leT ns ms)) H) : rLeT K (.ref p) (.ref q) H Q :=
  ⟨p, q, ns, ms, rfl, rfl, SqT.of hp, SqT.of hq, k⟩
theorem erase_map {α β : Type} (f : α → β) : ∀ (l : List α) (i : Nat), (l.map f).eraseIdx i = (l.eraseIdx i).map f
  | [], _ => rfl
  | _ :: _, 0 => rfl
  | a :: r, i + 1 => congrArg (f a :: ·) (erase_map f r i)

def top (i : Nat) : Stmt := PySem.Challenge.pw_splitseed_k56_next_sets.main.body.getD i (.Pass ⟨0, 0, 0, 0⟩)
abbrev s_NoNumber__init_ : Stmt := inClass (top 2) 0
abbrev s_NoSet__init_ : Stmt := inClass (top 3) 0
abbrev s_is_whole : Stmt := top 5
abbrev s_is_within : Stmt := top 6
abbrev s_need_many : Stmt := top 9
abbrev s_ways : Stmt := top 10
abbrev s_sets_many : Stmt := top 11
abbrev s_set_at : Stmt := top 12
abbrev s_is_set : Stmt := top 13
abbrev s_need_set : Stmt := top 14
abbrev s_next_set : Stmt := top 15
abbrev s_cell : Stmt := top 17
abbrev s_well : Stmt := top 18
abbrev s_draw : Stmt := top 19
abbrev s_whole : Stmt := top 20
abbrev s_many : Stmt := top 21
abbrev s_told : Stmt := top 22
abbrev s_set : Stmt := top 23
abbrev s_next : Stmt := top 24
abbrev s_next_right : Stmt := top 25
abbrev s_all : Stmt := top 26
abbrev s_law : Stmt := top 27
theorem sc_is_whole : FnScope ["thing"] ["thing"] (defScope s_is_whole) := ⟨rfl, rfl, rfl, by decide +kernel, rfl, by decide +kernel, by decide +kernel⟩
theorem sc_is_within : FnScope ["thing", "low", "high"] ["thing", "low", "high"] (defScope s_is_within) := ⟨rfl, rfl, rfl, by decide +kernel, rfl, by decide +kernel, by decide +kernel⟩
theorem sc_need_many : FnScope ["many"] ["many"] (defScope s_need_many) := ⟨rfl, rfl, rfl, by decide +kernel, rfl, by decide +kernel, by decide +kernel⟩
theorem sc_ways : FnScope ["many", "size", "found", "k"] ["many", "size"] (defScope s_ways) := ⟨rfl, rfl, rfl, by decide +kernel, rfl, by decide +kernel, by decide +kernel⟩
theorem sc_sets_many : FnScope ["many", "size"] ["many", "size"] (defScope s_sets_many) := ⟨rfl, rfl, rfl, by decide +kernel, rfl, by decide +kernel, by decide +kernel⟩
theorem sc_set_at : FnScope ["many", "size", "rank", "found", "one", "behind"] ["many", "size", "rank"] (defScope s_set_at) := ⟨rfl, rfl, rfl, by decide +kernel, rfl, by decide +kernel, by decide +kernel⟩
theorem sc_is_set : FnScope ["many", "thing", "ahead", "one"] ["many", "thing"] (defScope s_is_set) := ⟨rfl, rfl, rfl, by decide +kernel, rfl, by decide +kernel, by decide +kernel⟩
theorem sc_need_set : FnScope ["many", "told"] ["many", "told"] (defScope s_need_set) := ⟨rfl, rfl, rfl, by decide +kernel, rfl, by decide +kernel, by decide +kernel⟩
theorem sc_next_set : FnScope ["many", "told", "size", "at", "k"] ["many", "told"] (defScope s_next_set) := ⟨rfl, rfl, rfl, by decide +kernel, rfl, by decide +kernel, by decide +kernel⟩
theorem sc_cell : FnScope ["_law_script", "_law_k"] ["_law_script", "_law_k"] (defScope s_cell) := ⟨rfl, rfl, rfl, by decide +kernel, rfl, by decide +kernel, by decide +kernel⟩
theorem sc_well : FnScope ["_law_cell_here"] ["_law_cell_here"] (defScope s_well) := ⟨rfl, rfl, rfl, by decide +kernel, rfl, by decide +kernel, by decide +kernel⟩
theorem sc_draw : FnScope ["_law_well_here", "_law_many_here", "_law_number"] ["_law_well_here", "_law_many_here"] (defScope s_draw) := ⟨rfl, rfl, rfl, by decide +kernel, rfl, by decide +kernel, by decide +kernel⟩
theorem sc_whole : FnScope ["_law_thing"] ["_law_thing"] (defScope s_whole) := ⟨rfl, rfl, rfl, by decide +kernel, rfl, by decide +kernel, by decide +kernel⟩
theorem sc_many : FnScope ["_law_well_here", "_law_most"] ["_law_well_here", "_law_most"] (defScope s_many) := ⟨rfl, rfl, rfl, by decide +kernel, rfl, by decide +kernel, by decide +kernel⟩
theorem sc_told : FnScope ["_law_found", "_law_due", "_law_place"] ["_law_found", "_law_due"] (defScope s_told) := ⟨rfl, rfl, rfl, by decide +kernel, rfl, by decide +kernel, by decide +kernel⟩
theorem sc_set : FnScope ["_law_well_here", "_law_many_here", "_law_size", "_law_left", "_law_way", "_law_kept"] ["_law_well_here", "_law_many_here", "_law_size"] (defScope s_set) := ⟨rfl, rfl, rfl, by decide +kernel, rfl, by decide +kernel, by decide +kernel⟩
theorem sc_next : FnScope ["_law_many_here", "_law_one", "_law_size", "_law_at", "_law_k"] ["_law_many_here", "_law_one"] (defScope s_next) := ⟨rfl, rfl, rfl, by decide +kernel, rfl, by decide +kernel, by decide +kernel⟩
theorem sc_next_right : FnScope ["_law_many_here", "_law_one", "_law_told_here", "_law_due"] ["_law_many_here", "_law_one", "_law_told_here"] (defScope s_next_right) := ⟨rfl, rfl, rfl, by decide +kernel, rfl, by decide +kernel, by decide +kernel⟩
theorem sc_all : FnScope ["_law_many_here", "_law_size", "_law_one", "_law_found", "_law_further"] ["_law_many_here", "_law_size"] (defScope s_all) := ⟨rfl, rfl, rfl, by decide +kernel, rfl, by decide +kernel, by decide +kernel⟩
theorem sc_law : FnScope ["_law_script", "_law_k", "_law_well_here", "_law_many_here", "_law_one", "_law_handed", "_law_few"] ["_law_script"] (defScope s_law) := ⟨rfl, rfl, rfl, by decide +kernel, rfl, by decide +kernel, by decide +kernel⟩
structure Txt (K : PySem.W.Frag) (mg : Str → Option Value) where
  f_is_whole : Addr
  d_is_whole : FuncData
  g_is_whole : mg "is_whole" = some (.ref f_is_whole)
  k_is_whole : PySem.W.keepIn K (.ref f_is_whole) = true
  F_is_whole : Fun K "is_whole" "is_whole" s_is_whole f_is_whole d_is_whole
  b_is_whole : Binds K d_is_whole ["thing"] []
  f_is_within : Addr
  d_is_within : FuncData
  g_is_within : mg "is_within" = some (.ref f_is_within)
  k_is_within : PySem.W.keepIn K (.ref f_is_within) = true
  F_is_within : Fun K "is_within" "is_within" s_is_within f_is_within d_is_within
  b_is_within : Binds K d_is_within ["thing", "low", "high"] []
  f_need_many : Addr
  d_need_many : FuncData
  g_need_many : mg "need_many" = some (.ref f_need_many)
  k_need_many : PySem.W.keepIn K (.ref f_need_many) = true
  F_need_many : Fun K "need_many" "need_many" s_need_many f_need_many d_need_many
  b_need_many : Binds K d_need_many ["many"] []
  f_ways : Addr
  d_ways : FuncData
  g_ways : mg "ways" = some (.ref f_ways)
  k_ways : PySem.W.keepIn K (.ref f_ways) = true
  F_ways : Fun K "ways" "ways" s_ways f_ways d_ways
  b_ways : Binds K d_ways ["many", "size"] []
  f_sets_many : Addr
  d_sets_many : FuncData
  g_sets_many : mg "sets_many" = some (.ref f_sets_many)
  k_sets_many : PySem.W.keepIn K (.ref f_sets_many) = true
  F_sets_many : Fun K "sets_many" "sets_many" s_sets_many f_sets_many d_sets_many
  b_sets_many : Binds K d_sets_many ["many", "size"] []
  f_set_at : Addr
  d_set_at : FuncData
  g_set_at : mg "set_at" = some (.ref f_set_at)
  k_set_at : PySem.W.keepIn K (.ref f_set_at) = true
  F_set_at : Fun K "set_at" "set_at" s_set_at f_set_at d_set_at
  b_set_at : Binds K d_set_at ["many", "size", "rank"] []
  f_is_set : Addr
  d_is_set : FuncData
  g_is_set : mg "is_set" = some (.ref f_is_set)
  k_is_set : PySem.W.keepIn K (.ref f_is_set) = true
  F_is_set : Fun K "is_set" "is_set" s_is_set f_is_set d_is_set
  b_is_set : Binds K d_is_set ["many", "thing"] []
  f_need_set : Addr
  d_need_set : FuncData
  g_need_set : mg "need_set" = some (.ref f_need_set)
  k_need_set : PySem.W.keepIn K (.ref f_need_set) = true
  F_need_set : Fun K "need_set" "need_set" s_need_set f_need_set d_need_set
  b_need_set : Binds K d_need_set ["many", "told"] []
  f_next_set : Addr
  d_next_set : FuncData
  g_next_set : mg "next_set" = some (.ref f_next_set)
  k_next_set : PySem.W.keepIn K (.ref f_next_set) = true
  F_next_set : Fun K "next_set" "next_set" s_next_set f_next_set d_next_set
  b_next_set : Binds K d_next_set ["many", "told"] []
  f_cell : Addr
  d_cell : FuncData
  g_cell : mg "_law_cell" = some (.ref f_cell)
  k_cell : PySem.W.keepIn K (.ref f_cell) = true
  F_cell : Fun K "_law_cell" "_law_cell" s_cell f_cell d_cell
  b_cell : Binds K d_cell ["_law_script", "_law_k"] []
  f_well : Addr
  d_well : FuncData
  g_well : mg "_law_well" = some (.ref f_well)
  k_well : PySem.W.keepIn K (.ref f_well) = true
  F_well : Fun K "_law_well" "_law_well" s_well f_well d_well
  b_well : Binds K d_well ["_law_cell_here"] []
  f_draw : Addr
  d_draw : FuncData
  g_draw : mg "_law_draw" = some (.ref f_draw)
  k_draw : PySem.W.keepIn K (.ref f_draw) = true
  F_draw : Fun K "_law_draw" "_law_draw" s_draw f_draw d_draw
  b_draw : Binds K d_draw ["_law_well_here", "_law_many_here"] []
  f_many : Addr
  d_many : FuncData
  g_many : mg "_law_many" = some (.ref f_many)
  k_many : PySem.W.keepIn K (.ref f_many) = true
  F_many : Fun K "_law_many" "_law_many" s_many f_many d_many
  b_many : Binds K d_many ["_law_well_here", "_law_most"] []
  f_told : Addr
  d_told : FuncData
  g_told : mg "_law_told" = some (.ref f_told)
  k_told : PySem.W.keepIn K (.ref f_told) = true
  F_told : Fun K "_law_told" "_law_told" s_told f_told d_told
  b_told : Binds K d_told ["_law_found", "_law_due"] []
  f_set : Addr
  d_set : FuncData
  g_set : mg "_law_set" = some (.ref f_set)
  k_set : PySem.W.keepIn K (.ref f_set) = true
  F_set : Fun K "_law_set" "_law_set" s_set f_set d_set
  b_set : Binds K d_set ["_law_well_here", "_law_many_here", "_law_size"] []
  f_next : Addr
  d_next : FuncData
  g_next : mg "_law_next" = some (.ref f_next)
  k_next : PySem.W.keepIn K (.ref f_next) = true
  F_next : Fun K "_law_next" "_law_next" s_next f_next d_next
  b_next : Binds K d_next ["_law_many_here", "_law_one"] []
  f_next_right : Addr
  d_next_right : FuncData
  g_next_right : mg "_law_next_right" = some (.ref f_next_right)
  k_next_right : PySem.W.keepIn K (.ref f_next_right) = true
  F_next_right : Fun K "_law_next_right" "_law_next_right" s_next_right f_next_right d_next_right
  b_next_right : Binds K d_next_right ["_law_many_here", "_law_one", "_law_told_here"] []
  f_all : Addr
  d_all : FuncData
  g_all : mg "_law_all" = some (.ref f_all)
  k_all : PySem.W.keepIn K (.ref f_all) = true
  F_all : Fun K "_law_all" "_law_all" s_all f_all d_all
  b_all : Binds K d_all ["_law_many_here", "_law_size"] []
  f_law : Addr
  d_law : FuncData
  g_law : mg "law" = some (.ref f_law)
  k_law : PySem.W.keepIn K (.ref f_law) = true
  F_law : Fun K "law" "law" s_law f_law d_law
  b_law : Binds K d_law ["_law_script"] []
  n_len : mg "len" = none
  n_max : mg "max" = none
  n_min : mg "min" = none
  n_all : mg "all" = none
  n_isinstance : mg "isinstance" = none
  n_int : mg "int" = none
  n_bool : mg "bool" = none
  n_list : mg "list" = none
  n_tuple : mg "tuple" = none
  n_range : mg "range" = none
  c_MOST_OUT_OF : ∃ t, mg "MOST_OUT_OF" = some (.int (60) t)
local macro_rules | `(tactic| tm_at "hp") => `(tactic| first
  | assumption
  | exact upd_same
  | exact Eq.trans (upd_ne (by tm_at "ne")) (by tm_at "hp")
  | exact Same.g (by assumption) (by tm_at "hp")
  | exact Fr.g (by assumption) (by tm_at "ne") (by tm_at "hp"))
local macro_rules | `(tactic| tm_at "ne") => `(tactic| first
  | assumption
  | exact Ne.symm (by assumption)
  | exact ne_nn (by assumption) (by tm_at "hp")
  | exact Ne.symm (ne_nn (by assumption) (by tm_at "hp")))
/-! one step of a reading that asks for nothing new -/
set_option hygiene false in
local macro_rules | `(tactic| tm_at "g1") => `(tactic| first
  | with_reducible refine tC_i ?_
  | with_reducible refine tCons_i ?_
  | with_reducible refine tNil_i ?_
  | refine ⟨_, rfl, ?_⟩
  | refine ⟨_, _, rfl, rfl, ?_⟩
  | refine ⟨rfl, ?_⟩
  | refine ⟨Or.inl ⟨by omega, by omega⟩, ?_⟩
  | refine ⟨Or.inr ⟨by omega, by omega⟩, ?_⟩
  | refine ⟨(by decide : (0 : Int) < _), ?_⟩
  | refine ⟨(⟨by decide, by decide +kernel⟩ : CDivW _ _), ?_⟩
  | refine ⟨(⟨by decide, by decide, by decide⟩ : CPow _ _), ?_⟩
  | refine ⟨Or.inl ⟨rfl, _, SqL.of (by tm_at "hp")⟩, ?_⟩
  | refine ⟨_, _, _, _, rfl, rfl, SqL.of (by tm_at "hp"), (by tm_at "at"), ?_⟩
  | refine ⟨_, _, _, _, rfl, rfl, (by tm_at "hp"), (by tm_at "ix"), ?_⟩
  | refine ⟨_, _, rfl, Or.inl (SqL.of (by tm_at "hp")), ?_⟩
  | refine ⟨_, _, rfl, Or.inr (SqT.of (by tm_at "hp")), ?_⟩
  | refine ⟨_, _, rfl, sq_or (by tm_at "hp"), ?_⟩
  | refine ⟨_, _, rfl, ?_⟩
  | ((with_reducible show rIx _ (V.ref _) (V.int _) _ _); refine ix_sq (by tm_at "hp") (by tm_at "at") ?_))
local macro_rules | `(tactic| tm_at "at") => `(tactic| first
  | with_reducible exact at_head
  | ((with_reducible show atI (_ :: _) _ = _); rfl)
  | ((with_reducible show atI (List.set _ _ _) _ = _); rfl))
local macro_rules | `(tactic| tm_at "ix") => `(tactic| first
  | with_reducible exact ix_head
  | ((with_reducible show ixN (List.length (_ :: _)) _ = _); rfl)
  | ((with_reducible show ixN (List.length (List.set _ _ _)) _ = _); rfl))
local macro_rules | `(tactic| tm_at "go") => `(tactic| repeat tm_at "g1")
/-! a test that the facts decide -/
local macro_rules | `(tactic| tm_at "bd") => `(tactic| first
  | rfl
  | assumption
  | (exact decide_eq_true (by omega))
  | (exact decide_eq_false (by omega))
  | (simp only [decide_eq_true_eq, decide_eq_false_iff_not, Bool.not_eq_true', Bool.not_eq_false', Bool.not_eq_eq_eq_not, Bool.not_true, Bool.not_false, V.int.injEq, List.length_map, reduceCtorEq]; omega))
local macro_rules | `(tactic| tm_at "if") => `(tactic| first
  | refine ifT (by tm_at "bd") ?_
  | refine ifF (by tm_at "bd") ?_)
local macro_rules | `(tactic| tm_at "mono") => `(tactic| repeat' first
  | exact mo_var _ | exact mo_c _ | exact mo_nil | exact mo_rI0 _ | exact mo_rI _ _ | exact mo_rEq | exact mo_rNe | exact mo_rIxL _ | exact mo_rIxT _ | exact mo_rIx _ | exact mo_len _ | exact mo_neD _ | exact mo_eqD _
  | with_reducible refine mo_op ?_ ?_ ?_ | with_reducible refine mo_cb ?_ ?_ | with_reducible refine mo_cons ?_ ?_ | with_reducible refine mo_test ?_ | with_reducible refine mo_b ?_ | with_reducible refine mo_not ?_ | with_reducible refine mo_and ?_ ?_ | with_reducible refine mo_or ?_ ?_)
section
variable {P : Program} {w : World} {K : PySem.W.Frag} {mg : Str → Option Value} {base : Heap}


def sp_whole (K : PySem.W.Frag) : Sp := fun vs H Q _ => ∃ (x : V) (k : Kd), vs = [x] ∧ Kn K H x k ∧ Q (.bl (isI x)) H
theorem ok_is_whole (T : Txt K mg) : FnOk P w K mg base CX0 1 T.f_is_whole T.d_is_whole ["thing"] (sp_whole K) := by
  refine T.F_is_whole.ok sc_is_whole (fun vs H Q E h => ?_) (fun cdv A outer s H vs Q E hr h => ?_)
  · obtain ⟨x, k, rfl, ty, q⟩ := h; rfl
  obtain ⟨x, k, rfl, ty, q⟩ := h
  refine ⟨_, (pss_one (ps_ret (pe_and (pe_callB call_isi (by rfl) T.n_isinstance (by decide +kernel) (pa_cons (pv 0) (pa_cons (pe_bltn (v := .ty "int") (by rfl) T.n_int (by decide +kernel) rfl) pa_nil))) (pe_one (pe_not (pe_callB call_isi (by rfl) T.n_isinstance (by decide +kernel) (pa_cons (pv 0) (pa_cons (pe_bltn (v := .ty "bool") (by rfl) T.n_bool (by decide +kernel) rfl) pa_nil)))))))), ?_⟩
  refine ⟨_, rfl, _, _, _, _, _, rfl, ClsV.ty _, ty, kit_ty (kb_int k), _, rfl, ?_⟩
  rw [ty.isI] at q
  by_cases h1 : k = .int ∨ k = .bl
  · refine ifT (decide_eq_true h1) ?_
    refine ⟨_, rfl, _, _, _, _, _, rfl, ClsV.ty _, ty, kit_ty (kb_bool k), _, rfl, ?_⟩
    rcases h1 with rfl | rfl <;> exact q
  · refine ifF (decide_eq_false h1) ?_
    have h2 : k ≠ .int := fun e => h1 (.inl e)
    rw [decide_eq_false h2] at q
    exact q
def sp_within (K : PySem.W.Frag) : Sp := fun vs H Q _ => ∃ (x : V) (k : Kd) (lo hi : Int), vs = [x, .int lo, .int hi] ∧ Kn K H x k ∧ Q (.bl (wb x lo hi)) H
theorem ok_is_within (T : Txt K mg) : FnOk P w K mg base CX0 2 T.f_is_within T.d_is_within ["thing", "low", "high"] (sp_within K) := by
  refine T.F_is_within.ok sc_is_within (fun vs H Q E h => ?_) (fun cdv A outer s H vs Q E hr h => ?_)
  · obtain ⟨x, k, lo, hi, rfl, ty, q⟩ := h; rfl
  obtain ⟨x, k, lo, hi, rfl, ty, q⟩ := h
  refine ⟨_, (pss_one (ps_ret (pe_and (pe_call (ok_is_whole T) (hr.mono (by decide)) rfl T.g_is_whole T.k_is_whole T.b_is_whole .nil pass0 (pa_cons (pv 0) pa_nil)) (pe_one (pe_chain op_le op_le (pv 1) (pv 0) (pv 2)))))), ?_⟩
  refine ⟨_, rfl, x, k, rfl, ty, _, rfl, ?_⟩
  cases x with
  | int i =>
    refine ifT rfl ?_
    refine ⟨_, rfl, _, rfl, _, _, rfl, rfl, _, rfl, ?_⟩
    refine ite2 (fun c => ?_) (fun c => ?_)
    · refine ⟨_, rfl, _, _, rfl, rfl, ?_⟩
      have e : wb (.int i) lo hi = decide (i ≤ hi) := by show (decide (lo ≤ i) && decide (i ≤ hi)) = _; rw [c]; rfl
      rw [e] at q; exact q
    · have e : wb (.int i) lo hi = false := by show (decide (lo ≤ i) && decide (i ≤ hi)) = _; rw [Bool.eq_false_iff.mpr c]; rfl
      rw [e] at q; exact q
  | _ => exact ifF rfl q


/-! ### the law's draws -/
def sp_cell (K : PySem.W.Frag) : Sp := fun vs H Q _ => ∃ (a : Addr) (ns : List Int) (k : Int), vs = [.ref a, .int k] ∧ SqL K H a (ns.map V.int) ∧ 0 ≤ k ∧ ∀ c, Q (.int c) H
theorem ok_cell (T : Txt K mg) : FnOk P w K mg base CX0 1 T.f_cell T.d_cell ["_law_script", "_law_k"] (sp_cell K) := by
  refine T.F_cell.ok sc_cell (fun vs H Q E h => ?_) (fun cdv A outer s H vs Q E hr h => ?_)
  · obtain ⟨a, ns, k, rfl, hS, h0, q⟩ := h; rfl
  obtain ⟨a, ns, k, rfl, hS, h0, q⟩ := h
  refine ⟨_, (pss_cons (ps_if (pt_cmpR op_lt (pv 1) (pe_callB call_len_seq (by rfl) T.n_len (by decide +kernel) (pa_cons (pv 0) pa_nil)) (nomark _)) (pss_one (ps_ret (pe_ix ix_list (pv 0) (pv 1) (fun _ _ => rfl)))) pss_nil)
      (pss_one (ps_ret (pe_op op_add (pe_op op_mul pe_int (pv 1)) pe_int)))), ?_⟩
  refine ⟨_, rfl, _, rfl, a, _, rfl, .inl hS, _, _, rfl, rfl, _, rfl, ?_⟩
  refine ite2 (fun c => ?_) (fun c => ?_)
  · rw [List.length_map] at c
    have c := of_decide_eq_true c
    have hk : ns[k.toNat]? = some (ns[k.toNat]'(by omega)) := List.getElem?_eq_getElem _
    refine ⟨_, rfl, _, rfl, a, _, _, _, rfl, rfl, hS, at_of (j := k.toNat) (by omega) (by rw [List.getElem?_map, hk]; rfl), q _⟩
  · tm_at "go"
    exact q _
def sp_well : Sp := fun vs H Q _ => ∃ c : Int, vs = [.int c] ∧ ∀ p x y z, H p = none → Q (.ref p) (upd H p (wl x y z))
theorem ok_well (T : Txt K mg) : FnOk P w K mg base CX0 1 T.f_well T.d_well ["_law_cell_here"] (sp_well) := by
  refine T.F_well.ok sc_well (fun vs H Q E h => ?_) (fun cdv A outer s H vs Q E hr h => ?_)
  · obtain ⟨c, rfl, q⟩ := h; rfl
  obtain ⟨c, rfl, q⟩ := h
  refine ⟨_, (pss_cons (ps_if (pt_cmpR op_ge (pv 0) (pe_op op_pow pe_int pe_int) (nomark _)) (pss_one (ps_ret (pe_lst (pa_cons (pv 0) (pa_cons (pe_op op_mod (pv 0) pe_int) (pa_cons pe_int pa_nil)))))) pss_nil)
      (pss_one (ps_ret (pe_lst (pa_cons pe_int (pa_cons (pe_op op_mod (pv 0) pe_int) (pa_cons pe_int pa_nil))))))), ?_⟩
  tm_at "go"
  refine ite2 (fun c => ?_) (fun c => ?_)
  · tm_at "go"
    exact ⟨Nat.le_of_ble_eq_true rfl, fun p np => q p _ _ _ np⟩
  · tm_at "go"
    exact ⟨Nat.le_of_ble_eq_true rfl, fun p np => q p _ _ _ np⟩
def sp_draw : Sp := fun vs H Q _ => ∃ (a : Addr) (n x y z : Int), vs = [.ref a, .int n] ∧ H a = some (wl x y z) ∧ 0 < n ∧ n < 2 ^ 200 ∧
  ∀ r x' y' z', 0 ≤ r → r < n → Q (.int r) (upd H a (wl x' y' z'))
theorem log_of {n : Int} (h0 : 0 < n) (h : n < 2 ^ 200) : n.natAbs.log2 < 9000 := by
  have h1 : n.natAbs < 2 ^ 200 := by omega
  exact Nat.lt_of_lt_of_le ((Nat.log2_lt (by omega)).mpr h1) (by decide)
theorem ok_draw (T : Txt K mg) : FnOk P w K mg base CX0 1 T.f_draw T.d_draw ["_law_well_here", "_law_many_here"] (sp_draw) := by
  refine T.F_draw.ok sc_draw (fun vs H Q E h => ?_) (fun cdv A outer s H vs Q E hr h => ?_)
  · obtain ⟨a, n, x, y, z, rfl, hw, hn, hl, q⟩ := h; rfl
  obtain ⟨a, n, x, y, z, rfl, hw, hn, hl, q⟩ := h
  refine ⟨_, (pss_cons (ps_if (pt_cmpR op_gt (pe_ix ix_list (pv 0) pe_int (fun _ _ => rfl)) pe_int (nomark _)) (pss_cons (ps_set (i := 2) sc_draw.nd rfl (Or.inl rfl) (pe_op op_mod (pe_ix ix_list (pv 0) pe_int (fun _ _ => rfl)) (pv 1)))
      (pss_cons (ps_asg (pe_op op_fdivW (pe_ix ix_list (pv 0) pe_int (fun _ _ => rfl)) (pv 1)) (pg_sub (pv 0) pe_int set_list))
      (pss_one (ps_ret (pv 2))))) pss_nil)
      (pss_cons (ps_asg (pe_op op_add (pe_ix ix_list (pv 0) pe_int (fun _ _ => rfl)) pe_int) (pg_sub (pv 0) pe_int set_list))
      (pss_cons (ps_set (i := 2) sc_draw.nd rfl (Or.inl rfl) (pe_op op_mod (pe_op op_add (pe_op op_add (pe_op op_mul (pe_ix ix_list (pv 0) pe_int (fun _ _ => rfl)) pe_int) (pe_op op_mul pe_int (pe_ix ix_list (pv 0) pe_int (fun _ _ => rfl)))) pe_int) pe_int))
      (pss_cons (ps_set (i := 2) sc_draw.nd rfl (Or.inl rfl) (pe_op op_mod (pe_op op_add (pe_op op_add (pe_op op_mul (pv 2) (pv 2)) (pe_op op_mul pe_int (pe_ix ix_list (pv 0) pe_int (fun _ _ => rfl)))) pe_int) pe_int))
      (pss_one (ps_ret (pe_op op_mod (pe_op op_mod (pe_op op_mul (pv 2) (pv 2)) pe_int) (pv 1)))))))), ?_⟩
  tm_at "go"
  refine ite2 (fun c => ?_) (fun c => ?_)
  · tm_at "go"
    refine ⟨hn, ?_⟩
    tm_at "go"
    refine ⟨⟨hn, log_of hn hl⟩, ?_⟩
    tm_at "go"
    exact q _ _ _ _ (Int.emod_nonneg _ (by omega)) (Int.emod_lt_of_pos _ hn)
  · tm_at "go"
    exact ⟨hn, q _ _ _ _ (Int.emod_nonneg _ (by omega)) (Int.emod_lt_of_pos _ hn)⟩


/-! ### more of the law's draws -/
def sp_lmany : Sp := fun vs H Q _ => ∃ (a : Addr) (n x y z : Int), vs = [.ref a, .int n] ∧ H a = some (wl x y z) ∧ 5 ≤ n ∧ n ≤ 1000 ∧
  ∀ r x' y' z' H', 0 ≤ r → r ≤ n → H' a = some (wl x' y' z') → Fr a H H' → Q (.int r) H'
theorem ok_many (T : Txt K mg) : FnOk P w K mg base CX0 2 T.f_many T.d_many ["_law_well_here", "_law_most"] (sp_lmany) := by
  refine T.F_many.ok sc_many (fun vs H Q E h => ?_) (fun cdv A outer s H vs Q E hr h => ?_)
  · obtain ⟨a, n, x, y, z, rfl, hw, hn, hn2, q⟩ := h; rfl
  obtain ⟨a, n, x, y, z, rfl, hw, hn, hn2, q⟩ := h
  refine ⟨_, (pss_one (ps_ret (pe_ix ix_list (pe_lst (pa_cons (pe_call (ok_draw T) (hr.mono (by decide)) rfl T.g_draw T.k_draw T.b_draw .nil pass0 (pa_cons (pv 0) (pa_cons pe_int pa_nil))) (pa_cons (pe_call (ok_draw T) (hr.mono (by decide)) rfl T.g_draw T.k_draw T.b_draw .nil pass0 (pa_cons (pv 0) (pa_cons (pe_op op_add (pv 1) pe_int) pa_nil))) (pa_cons (pv 1) pa_nil)))) (pe_callB (call_max2 rfl) (by rfl) T.n_max (by decide +kernel) (pa_cons pe_int (pa_cons (pe_op op_sub (pe_call (ok_draw T) (hr.mono (by decide)) rfl T.g_draw T.k_draw T.b_draw .nil pass0 (pa_cons (pv 0) (pa_cons pe_int pa_nil))) pe_int) pa_nil))) (fun _ _ => rfl)))), ?_⟩
  tm_at "go"
  refine ⟨_, _, _, _, _, rfl, hw, (by decide), (by decide), fun r1 x1 y1 z1 h1 g1 => ?_⟩
  tm_at "go"
  refine ⟨_, _, _, _, _, rfl, upd_same, (by omega), (by omega), fun r2 x2 y2 z2 h2 g2 => ?_⟩
  tm_at "go"
  refine ⟨Nat.le_of_ble_eq_true rfl, fun l nl => ?_⟩
  have hal : a ≠ l := ne_nn nl upd_same
  have f := ((Fr.put (a := a) (H := H) (o := wl x1 y1 z1)).trans (Fr.put (o := wl x2 y2 z2))).mk (o := .lst [.int r1, .int r2, .int n]) upd_same nl
  tm_at "go"
  refine ⟨_, _, _, _, _, rfl, (by tm_at "hp"), (by decide), (by decide), fun r3 x3 y3 z3 h3 g3 => ?_⟩
  tm_at "go"
  have cs : (if r3 - 5 > 0 then r3 - 5 else 0) = 0 ∨ (if r3 - 5 > 0 then r3 - 5 else 0) = 1 ∨ (if r3 - 5 > 0 then r3 - 5 else 0) = 2 := by split <;> omega
  generalize (if r3 - 5 > 0 then r3 - 5 else 0) = u at *
  rcases cs with rfl | rfl | rfl
  · exact ⟨l, _, _, _, rfl, rfl, SqL.of (by tm_at "hp"), rfl, q r1 x3 y3 z3 _ h1 (by omega) upd_same (f.trans Fr.put)⟩
  · exact ⟨l, _, _, _, rfl, rfl, SqL.of (by tm_at "hp"), rfl, q r2 x3 y3 z3 _ h2 (by omega) upd_same (f.trans Fr.put)⟩
  · exact ⟨l, _, _, _, rfl, rfl, SqL.of (by tm_at "hp"), rfl, q n x3 y3 z3 _ (by omega) (by omega) upd_same (f.trans Fr.put)⟩


/-- a tuple of ints told, and the ints due -/
def sp_told : Sp := fun vs H Q _ => ∃ (p d : Addr) (b : Bool) (ns : List Int), vs = [.ref p, .ref d] ∧ H p = some (.tup (ns.map V.int)) ∧ H d = some (sq b (ns.map V.int)) ∧ ns.length ≤ 1000 ∧
  ∀ H', Same H H' → Q (.bl true) H'
theorem ok_told (T : Txt K mg) : FnOk P w K mg base CX0 1 T.f_told T.d_told ["_law_found", "_law_due"] (sp_told) := by
  refine T.F_told.ok sc_told (fun vs H Q E h => ?_) (fun cdv A outer s H vs Q E hr h => ?_)
  · obtain ⟨p, d, b, ns, rfl, hp, hd, hl, q⟩ := h; rfl
  obtain ⟨p, d, b, ns, rfl, hp, hd, hl, q⟩ := h
  refine ⟨_, (pss_cons (ps_if (PW.pt (pw_or (pt_not (pt_val (pe_callB call_isi (by rfl) T.n_isinstance (by decide +kernel) (pa_cons (pv 0) (pa_cons (pe_bltn (v := .ty "tuple") (by rfl) T.n_tuple (by decide +kernel) rfl) pa_nil))))) (pw_or1 (pt_cmpR (op_neD hr.units) (pv 0) (pe_callTy call_tuple_of (by rfl) T.n_tuple (by decide +kernel) (pa_cons (pv 1) pa_nil)) (nomark _))))) (pss_one (ps_ret pe_bl)) pss_nil)
      (pss_one (ps_ret (pe_callB (cr_all rfl) (by rfl) T.n_all (by decide +kernel) (pa_cons (pe_lc (own := [("_law_place", 2)]) (g := gName 2) (tt := tYes) rfl sc_told.nd (pi_tup (pv 0)) (blkOk_by (own := [("_law_place", 2)]) (N := ["_law_found", "_law_due", "_law_place"]) (sc := defScope s_told) (by decide +kernel)) (fun _ _ _ _ _ => (pg_name (i := 2) sc_told.nd rfl (Or.inl rfl))) (fun _ _ _ _ _ => pts_nil) (fun _ _ _ _ _ => (pe_and (pe_callB (show CallR _ (.builtin "isinstance") (rIsi K) from call_isi) (by rfl) T.n_isinstance (by decide +kernel) (pa_cons (pv 2) (pa_cons (pe_bltn (v := .ty "int") (by rfl) T.n_int (by decide +kernel) rfl) pa_nil))) (pe_one (pe_not (pe_callB (show CallR _ (.builtin "isinstance") (rIsi K) from call_isi) (by rfl) T.n_isinstance (by decide +kernel) (pa_cons (pv 2) (pa_cons (pe_bltn (v := .ty "bool") (by rfl) T.n_bool (by decide +kernel) rfl) pa_nil)))))))) pa_nil))))), ?_⟩
  tm_at "go"
  refine ⟨_, _, _, _, _, rfl, ClsV.ty _, kn_tup hp, kit_ty (kb_tuple _), ?_⟩
  tm_at "go"
  have fin : ∀ (H1 : Hp), Same H H1 → ∀ D, H1 D = none → LcOk (Itb true K p) (gName 2) tYes (tAndV (tCB (rIsi K) (tCons (tVar 2) (tCons (tC (V.ty "int")) tNil))) (tNotV (tCB (rIsi K) (tCons (tVar 2) (tCons (tC (V.ty "bool")) tNil))))) [2] [some (.ref p), some (.ref d), none] H1 D
      (fun H2 => rAll K [.ref D] H2 Q) := by
    intro H1 s1
    refine lcP (b := true) (e := V.int) (as := ns) (fun _ => true) (fun _ => .bl true) (s1.g hp) (by omega) (fun _ => rfl) (fun x H' _ _ R k => k _ (Same.refl _)) (fun x H' hx _ s' R k => ?_) (fun D H' nD s' hD => ?_)
    · refine ⟨_, rfl, _, _, _, _, _, rfl, ClsV.ty _, kn_int x, kit_ty (kb_int _), _, rfl, ?_⟩
      refine ifT rfl ?_
      exact ⟨_, rfl, _, _, _, _, _, rfl, ClsV.ty _, kn_int x, kit_ty (kb_bool _), _, rfl, k _ (Same.refl _)⟩
    · exact ⟨D, _, rfl, SqL.of (by rw [hD, filter_yes, map_true]), by rw [all_yes]; exact q _ (s1.trans s')⟩
  cases b with
  | false =>
    refine ⟨d, _, rfl, .inl ⟨SqL.of hd, fun u nu => ?_⟩⟩
    have s1 : Same H (upd H u (.tup (ns.map V.int))) := Same.new nu
    refine neI (b := true) (c := true) (s1.g hp) upd_same ?_
    tm_at "go"
    refine ifF (by simp) ?_
    exact ⟨_, rfl, p, rfl, ⟨_, SqT.of (s1.g hp)⟩, fin _ s1⟩
  | true =>
    refine ⟨d, _, rfl, .inr ⟨SqT.of hd, ?_⟩⟩
    refine neI (b := true) (c := true) hp hd ?_
    tm_at "go"
    refine ifF (by simp) ?_
    exact ⟨_, rfl, p, rfl, ⟨_, SqT.of hp⟩, fin _ (Same.refl _)⟩


end
section
variable {P : Program} {w : World} {K : PySem.W.Frag} {mg : Str → Option Value} {base : Heap}

/-! ### sets -/
structure SetN (n : Int) (xs : List Int) : Prop where
  up : xs.Pairwise (· < ·)
  bd : ∀ x ∈ xs, 0 ≤ x ∧ x < n
theorem SetN.lt {n : Int} {xs : List Int} (h : SetN n xs) {i j : Nat} {x y : Int} (hi : xs[i]? = some x) (hj : xs[j]? = some y) (hij : i < j) : x < y := by
  obtain ⟨h1, e1⟩ := List.getElem?_eq_some_iff.mp hi
  obtain ⟨h2, e2⟩ := List.getElem?_eq_some_iff.mp hj
  have := List.pairwise_iff_getElem.mp h.up i j h1 h2 hij
  rw [e1, e2] at this
  exact this
theorem SetN.far {n : Int} {xs : List Int} (h : SetN n xs) {i j : Nat} {x y : Int} (hi : xs[i]? = some x) (hj : xs[j]? = some y) (hij : i ≤ j) : x + (j - i : Nat) ≤ y := by
  induction j generalizing y with
  | zero =>
    have e : i = 0 := by omega
    subst e
    rw [hi] at hj
    cases hj
    simp
  | succ j ih =>
    by_cases e : i = j + 1
    · subst e
      rw [hi] at hj
      cases hj
      simp
    · obtain ⟨z, hz, _⟩ := get_of (show j < xs.length by have := get_lt hj; omega)
      have h1 := ih hz (by omega)
      have h2 := h.lt hz hj (by omega)
      omega
/-- how high the i-th may stand -/
theorem SetN.top {n : Int} {xs : List Int} (h : SetN n xs) {i : Nat} {x : Int} (hi : xs[i]? = some x) : x ≤ n - xs.length + i := by
  have l := get_lt hi
  obtain ⟨z, hz, hm⟩ := get_of (show xs.length - 1 < xs.length by omega)
  have h1 := h.far hi hz (by omega)
  have h2 := (h.bd z hm).2
  omega
theorem SetN.low {n : Int} {xs : List Int} (h : SetN n xs) {i : Nat} {x : Int} (hi : xs[i]? = some x) : (i : Int) ≤ x := by
  obtain ⟨z, hz, hm⟩ := get_of (show 0 < xs.length by have := get_lt hi; omega)
  have h1 := h.far hz hi (by omega)
  have h2 := (h.bd z hm).1
  omega
theorem SetN.len {n : Int} {xs : List Int} (h0 : 0 ≤ n) (h : SetN n xs) : (xs.length : Int) ≤ n := by
  by_cases e : xs.length = 0
  · omega
  · obtain ⟨z, hz, hm⟩ := get_of (show xs.length - 1 < xs.length by omega)
    have h1 := h.low hz
    have h2 := (h.bd z hm).2
    omega
def prev (xs : List Int) (i : Nat) : Int := if i = 0 then -1 else xs.getD (i - 1) 0
theorem SetN.prev {n : Int} {xs : List Int} (h : SetN n xs) {i : Nat} {x : Int} (hi : xs[i]? = some x) : S.prev xs i + 1 ≤ x ∧ x ≤ n - 1 := by
  have h2 := h.bd x (List.mem_of_getElem? hi)
  refine ⟨?_, by omega⟩
  unfold S.prev
  by_cases e : i = 0
  · rw [if_pos e]; omega
  · rw [if_neg e]
    obtain ⟨z, hz, hm⟩ := get_of (show i - 1 < xs.length by have := get_lt hi; omega)
    have := h.lt hz hi (by omega)
    rw [List.getD_eq_getElem?_getD, hz]
    show z + 1 ≤ x
    omega
/-- the next set -/
def nxtAt (n : Int) (xs : List Int) : Nat → Option (List Int)
  | 0 => none
  | j + 1 => if xs.getD j 0 = n - xs.length + j then nxtAt n xs j else some (xs.take j ++ (List.range (xs.length - j)).map (fun k : Nat => xs.getD j 0 + 1 + (k : Int)))
def nxt (n : Int) (xs : List Int) : Option (List Int) := nxtAt n xs xs.length
def sp_nm (K : PySem.W.Frag) : Sp := fun vs H Q _ => ∃ m : Int, vs = [.int m] ∧ 0 ≤ m ∧ m ≤ 60 ∧ Q .non H
theorem ok_need_many (T : Txt K mg) : FnOk P w K mg base CX0 3 T.f_need_many T.d_need_many ["many"] (sp_nm K) := by
  refine T.F_need_many.ok sc_need_many (fun vs H Q E h => ?_) (fun cdv A outer s H vs Q E hr h => ?_)
  · obtain ⟨m, rfl, h0, h1, q⟩ := h; rfl
  obtain ⟨m, rfl, h0, h1, q⟩ := h
  refine ⟨_, (pss_one (ps_if (pt_not (pt_val (pe_call (ok_is_within T) (hr.mono (by decide)) rfl T.g_is_within T.k_is_within T.b_is_within .nil pass0 (pa_cons (pv 0) (pa_cons pe_int (pa_cons (pe_glob (v := .int (60)) rfl T.c_MOST_OUT_OF.choose_spec ⟨_, rfl⟩) pa_nil)))))) (pss_one ps_never) pss_nil)), ?_⟩
  tm_at "go"
  refine ⟨_, _, _, _, rfl, kn_int _, ?_⟩
  tm_at "go"
  refine ifF ?_ q
  show (!(decide (0 ≤ m) && decide (m ≤ 60))) = false
  rw [decide_eq_true h0, decide_eq_true h1]; rfl
def sp_isset (K : PySem.W.Frag) : Sp := fun vs H Q _ => ∃ (n : Int) (p : Addr) (b : Bool) (xs : List Int), vs = [.int n, .ref p] ∧ H p = some (sq b (xs.map V.int)) ∧ SetN n xs ∧ ∀ H', Same H H' → Q (.bl true) H'
theorem ok_is_set (T : Txt K mg) : FnOk P w K mg base CX0 3 T.f_is_set T.d_is_set ["many", "thing"] (sp_isset K) := by
  refine T.F_is_set.ok sc_is_set (fun vs H Q E h => ?_) (fun cdv A outer s H vs Q E hr h => ?_)
  · obtain ⟨n, p, b, xs, rfl, hp, hs, q⟩ := h; rfl
  obtain ⟨n, p, b, xs, rfl, hp, hs, q⟩ := h
  refine ⟨_, (pss_cons (ps_if (pt_not (pt_val (pe_callB call_isiT (by rfl) T.n_isinstance (by decide +kernel) (pa_cons (pv 1) (pa_cons (pe_tup (pa_cons (pe_bltn (v := .ty "list") (by rfl) T.n_list (by decide +kernel) rfl) (pa_cons (pe_bltn (v := .ty "tuple") (by rfl) T.n_tuple (by decide +kernel) rfl) pa_nil))) pa_nil))))) (pss_one (ps_ret pe_bl)) pss_nil)
      (pss_cons (ps_set (i := 2) sc_is_set.nd rfl (Or.inl rfl) (pe_un un_neg pe_int))
      (pss_cons (ps_for PassesOwn.never rfl (pi_seq (pv 1)) (pg_name (i := 3) sc_is_set.nd rfl (Or.inl rfl))
      (pss_cons (ps_if (pt_not (pt_val (pe_call (ok_is_within T) (hr.mono (by decide)) rfl T.g_is_within T.k_is_within T.b_is_within .nil pass0 (pa_cons (pv 3) (pa_cons (pe_op op_add (pv 2) pe_int) (pa_cons (pe_op op_sub (pv 0) pe_int) pa_nil)))))) (pss_one (ps_ret pe_bl)) pss_nil)
      (pss_one (ps_set (i := 2) sc_is_set.nd rfl (Or.inl rfl) (pv 3)))))
      (pss_one (ps_ret pe_bl))))), ?_⟩
  tm_at "go"
  refine ⟨Nat.le_of_ble_eq_true rfl, fun t nt => ?_⟩
  refine ⟨_, _, _, _, _, _, rfl, upd_same, .cons (.ty _) (.cons (.ty _) .nil), kn_sq (by tm_at "hp"), kb_lt _, ?_⟩
  have s1 : Same H (upd H t (.tup [V.ty "list", V.ty "tuple"])) := Same.new nt
  tm_at "go"
  refine ifF (by cases b <;> rfl) ?_
  tm_at "go"
  refine ⟨p, b, _, rfl, s1.g hp, for_sq (b := b) (xs := xs.map V.int) (fun i σ H' => ∃ v, σ = [some (.int n), some (.ref p), some (.int (prev xs i)), v] ∧ Same H H') ⟨_, rfl, s1⟩ (fun i σ H' _ ⟨_, _, s'⟩ => s'.g hp) ?_ ?_⟩
  · rintro i y σ H' hy ⟨v, rfl, s'⟩
    obtain ⟨x, hx, rfl⟩ : ∃ x, xs[i]? = some x ∧ y = V.int x := by
      rw [List.getElem?_map] at hy
      cases e : xs[i]? with
      | none => rw [e] at hy; cases hy
      | some x => rw [e] at hy; exact ⟨x, rfl, (Option.some.inj hy).symm⟩
    have h := hs.prev hx
    tm_at "go"
    refine ⟨_, _, _, _, rfl, kn_int _, ?_⟩
    tm_at "go"
    refine ifF ?_ ?_
    · show (!(decide (prev xs i + 1 ≤ x) && decide (x ≤ n - 1))) = false
      rw [decide_eq_true h.1, decide_eq_true h.2]; rfl
    refine ⟨_, rfl, ?_⟩
    refine ⟨some (.int x), ?_, s'⟩
    have e : prev xs (i + 1) = x := by
      unfold prev
      rw [if_neg (by omega), List.getD_eq_getElem?_getD, Nat.add_sub_cancel, hx]; rfl
    rw [e]; rfl
  · rintro σ H' ⟨v, rfl, s'⟩
    exact q _ s'
def sp_needset (K : PySem.W.Frag) : Sp := fun vs H Q _ => ∃ (n : Int) (p : Addr) (b : Bool) (xs : List Int), vs = [.int n, .ref p] ∧ 0 ≤ n ∧ n ≤ 60 ∧ H p = some (sq b (xs.map V.int)) ∧ SetN n xs ∧ ∀ H', Same H H' → Q .non H'
theorem ok_need_set (T : Txt K mg) : FnOk P w K mg base CX0 4 T.f_need_set T.d_need_set ["many", "told"] (sp_needset K) := by
  refine T.F_need_set.ok sc_need_set (fun vs H Q E h => ?_) (fun cdv A outer s H vs Q E hr h => ?_)
  · obtain ⟨n, p, b, xs, rfl, h0, h1, hp, hs, q⟩ := h; rfl
  obtain ⟨n, p, b, xs, rfl, h0, h1, hp, hs, q⟩ := h
  refine ⟨_, (pss_cons (ps_expr (pe_call (ok_need_many T) (hr.mono (by decide)) rfl T.g_need_many T.k_need_many T.b_need_many .nil pass0 (pa_cons (pv 0) pa_nil)))
      (pss_one (ps_if (pt_not (pt_val (pe_call (ok_is_set T) (hr.mono (by decide)) rfl T.g_is_set T.k_is_set T.b_is_set .nil pass0 (pa_cons (pv 0) (pa_cons (pv 1) pa_nil))))) (pss_one ps_never) pss_nil))), ?_⟩
  refine ⟨_, rfl, n, rfl, h0, h1, ?_⟩
  tm_at "go"
  refine ⟨n, p, b, xs, rfl, hp, hs, fun H' s' => ?_⟩
  tm_at "go"
  exact q _ s'
def sp_nextset (K : PySem.W.Frag) : Sp := fun vs H Q _ => ∃ (n : Int) (p : Addr) (b : Bool) (xs : List Int), vs = [.int n, .ref p] ∧ 0 ≤ n ∧ n ≤ 60 ∧ H p = some (sq b (xs.map V.int)) ∧ SetN n xs ∧
  ∀ H', Same H H' → (nxt n xs = none → Q .non H') ∧ (∀ ys t, nxt n xs = some ys → H' t = some (.tup (ys.map V.int)) → Q (.ref t) H')
theorem ok_next_set (T : Txt K mg) : FnOk P w K mg base CX0 5 T.f_next_set T.d_next_set ["many", "told"] (sp_nextset K) := by
  refine T.F_next_set.ok sc_next_set (fun vs H Q E h => ?_) (fun cdv A outer s H vs Q E hr h => ?_)
  · obtain ⟨n, p, b, xs, rfl, h0, h1, hp, hs, q⟩ := h; rfl
  obtain ⟨n, p, b, xs, rfl, h0, h1, hp, hs, q⟩ := h
  refine ⟨_, (pss_cons (ps_expr (pe_call (ok_need_set T) (hr.mono (by decide)) rfl T.g_need_set T.k_need_set T.b_need_set .nil pass0 (pa_cons (pv 0) (pa_cons (pv 1) pa_nil))))
      (pss_cons (ps_set (i := 2) sc_next_set.nd rfl (Or.inl rfl) (pe_callB call_len_seq (by rfl) T.n_len (by decide +kernel) (pa_cons (pv 1) pa_nil)))
      (pss_cons (ps_set (i := 3) sc_next_set.nd rfl (Or.inr rfl) (pe_op op_sub (pv 2) pe_int))
      (C8.pss_cut (ps_while PassesOwn.never (PW.pt (pw_and (pt_cmpR op_ge (pv 3) pe_int (nomark _)) (pw_and1 (pt_cmpR op_eq (pe_ix ix_seq (pv 1) (pv 3) (fun _ _ => rfl)) (pe_op op_add (pe_op op_sub (pv 0) (pv 2)) (pv 3)) (nomark _)))))
      (pss_one (ps_aug (i := 3) sc_next_set.nd rfl (Or.inr rfl) pe_int ip_sub)))
      (pss_cons (ps_if (pt_cmpR op_lt (pv 3) pe_int (nomark _)) (pss_one (ps_ret pe_non)) pss_nil)
      (pss_one (ps_ret (pe_callTy call_tuple_of (by rfl) T.n_tuple (by decide +kernel) (pa_cons (pe_op op_cat (pe_callTy call_list_of (by rfl) T.n_list (by decide +kernel) (pa_cons (pe_slice sl_sq (pv 1) po_none (po_some (pv 3))) pa_nil)) (pe_lc (own := [("k", 4)]) (g := gName 4) (tt := tYes) rfl sc_next_set.nd (pi_range1 (by rfl) T.n_range (pa_cons (pe_op op_sub (pv 2) (pv 3)) pa_nil)) (blkOk_by (own := [("k", 4)]) (N := ["many", "told", "size", "at", "k"]) (sc := defScope s_next_set) (by decide +kernel)) (fun _ _ _ _ _ => (pg_name (i := 4) sc_next_set.nd rfl (Or.inl rfl))) (fun _ _ _ _ _ => pts_nil) (fun _ _ _ _ _ => (pe_op op_add (pe_op op_add (pe_ix (show IxR _ (rIx K) from ix_seq) (pv 1) (pv 3) (fun _ _ => rfl)) pe_int) (pv 4))))) pa_nil))))))))), ?_⟩
  refine ⟨_, rfl, _, rfl, n, p, b, xs, rfl, h0, h1, hp, hs, fun H1 s1 => ?_⟩
  have hp1 := s1.g hp
  have hlen := SetN.len h0 hs
  tm_at "go"
  refine ⟨fun σ H' => ∃ j : Nat, j ≤ xs.length ∧ σ = [some (.int n), some (.ref p), some (.int (xs.length : Nat)), some (.int ((j : Int) - 1)), none] ∧ H' = H1 ∧ nxt n xs = nxtAt n xs j ∧ (∀ i x, j = i + 1 → xs[i]? = some x → ¬ x = n - xs.length + i), ?_, ?_⟩
  · refine while_mo (fun σ H' => ∃ j : Nat, j ≤ xs.length ∧ σ = [some (.int n), some (.ref p), some (.int (xs.length : Nat)), some (.int ((j : Int) - 1)), none] ∧ H' = H1 ∧ nxt n xs = nxtAt n xs j) (fun σ _ => match σ with | [_, _, _, some (.int a), _] => (a + 1).toNat | _ => 0)
      ⟨xs.length, Nat.le_refl _, by rw [List.length_map]; rfl, rfl, rfl⟩ ?_ (by tm_at "mono")
    rintro σ H' ⟨j, hj, rfl, rfl, he⟩
    tm_at "go"
    cases j with
    | zero =>
      refine ifF (by decide) ?_
      refine ifF rfl ?_
      exact ⟨0, hj, rfl, rfl, he, fun i x e => by omega⟩
    | succ j =>
      obtain ⟨x, hx, hm⟩ := get_of (show j < xs.length by omega)
      have ej : ((j + 1 : Nat) : Int) - 1 = j := by omega
      rw [ej]
      refine ifT (decide_eq_true (by omega)) ?_
      tm_at "go"
      refine ix_sq hp1 (at_int (j := j) rfl hx) ?_
      tm_at "go"
      have hd : xs.getD j 0 = x := by rw [List.getD_eq_getElem?_getD, hx]; rfl
      by_cases c : x = n - xs.length + j
      · refine ifT (decide_eq_true (by rw [c])) ?_
        tm_at "go"
        refine ⟨⟨j, by omega, rfl, rfl, ?_⟩, ?_⟩
        · rw [he]; show (if xs.getD j 0 = n - xs.length + j then _ else _) = _
          rw [hd, if_pos c]
        · show ((j : Int) - 1 + 1).toNat < ((j : Int) + 1).toNat
          omega
      · refine ifF (decide_eq_false (fun z => c (V.int.inj z))) ?_
        refine ⟨j + 1, hj, by rw [ej], rfl, he, fun i y e hy => ?_⟩
        have : i = j := by omega
        subst this
        rw [hx] at hy
        cases hy
        exact c
  rintro σ H' ⟨j, hj, rfl, rfl, he, hne⟩
  tm_at "go"
  cases j with
  | zero =>
    refine ifT (by decide) ?_
    exact (q _ s1).1 he
  | succ j =>
    obtain ⟨x, hx, hm⟩ := get_of (show j < xs.length by omega)
    have ej : ((j + 1 : Nat) : Int) - 1 = j := by omega
    have hd : xs.getD j 0 = x := by rw [List.getD_eq_getElem?_getD, hx]; rfl
    have en : nxt n xs = some (xs.take j ++ (List.range (xs.length - j)).map (fun k : Nat => x + 1 + (k : Int))) := by
      rw [he]
      show (if xs.getD j 0 = n - xs.length + j then _ else _) = _
      rw [hd, if_neg (hne j x rfl hx)]
    rw [ej]
    refine ifF (decide_eq_false (by omega)) ?_
    tm_at "go"
    have ec : cutV (xs.map V.int) none (some (j : Int)) = (xs.take j).map V.int := by
      rw [cut_to (by rw [List.length_map]; omega), List.map_take]
    cases b with
    | false =>
      refine .inl ⟨p, _, rfl, SqL.of hp1, fun l nl => ?_⟩
      have s2 := s1.mk (o := .lst (cutV (xs.map V.int) none (some (j : Int)))) nl
      have hpl : (upd H' l (.lst (cutV (xs.map V.int) none (some (j : Int))))) p = some (sq false (xs.map V.int)) := by tm_at "hp"
      tm_at "go"
      refine fun l2 nl2 => ?_
      rw [ec]
      have s3 := s2.mk (o := .lst ((xs.take j).map V.int)) nl2
      have hp3 : (upd (upd H' l (.lst (cutV (xs.map V.int) none (some (j : Int))))) l2 (.lst ((xs.take j).map V.int))) p = some (sq false (xs.map V.int)) := by tm_at "hp"
      rw [ec] at s3 hp3 nl2
      tm_at "go"
      refine ⟨by omega, by omega, ?_⟩
      have ew : ((xs.length : Int) - (j : Int)).toNat = xs.length - j := by omega
      rw [ew]
      refine lcR (fun _ => true) (fun k => .int (x + 1 + k)) (by omega) (fun _ => rfl) (fun x H' _ _ R k => k _ (Same.refl _)) (fun k H' hk _ s' R r => ?_) (fun D H4 nD s4 hD => ?_)
      · tm_at "go"
        refine ix_sq (s'.g hp3) (at_int (j := j) rfl hx) ?_
        tm_at "go"
        have e0 : (0 : Int) + (k : Int) = k := by omega
        rw [e0]
        exact r _ (Same.refl _)
      rw [filter_yes] at hD
      refine ⟨l2, D, _, _, rfl, rfl, s4.g upd_same, hD, ?_, fun l3 nl3 => ?_⟩
      · have e1 : ((xs.take j).map V.int).length + ((List.range (xs.length - j)).map (fun k : Nat => V.int (x + 1 + (k : Int)))).length ≤ 1000 := by simp; omega
        exact Nat.le_trans e1 (by decide)
      refine ⟨l3, _, rfl, .inl ⟨SqL.of upd_same, fun l4 nl4 => ?_⟩⟩
      refine (q _ (((s3.trans s4).mk nl3).mk nl4)).2 _ l4 en ?_
      rw [upd_same, List.map_append, List.map_map]; rfl
    | true =>
      refine .inr ⟨p, _, rfl, SqT.of hp1, ?_, fun l nl => ?_⟩
      · rintro ⟨_, h⟩
        rw [HT.sIx_nat, List.length_map] at h
        omega
      have s2 := s1.mk (o := .tup (cutV (xs.map V.int) none (some (j : Int)))) nl
      have hpl : (upd H' l (.tup (cutV (xs.map V.int) none (some (j : Int))))) p = some (sq true (xs.map V.int)) := by tm_at "hp"
      tm_at "go"
      refine fun l2 nl2 => ?_
      rw [ec]
      have s3 := s2.mk (o := .lst ((xs.take j).map V.int)) nl2
      have hp3 : (upd (upd H' l (.tup (cutV (xs.map V.int) none (some (j : Int))))) l2 (.lst ((xs.take j).map V.int))) p = some (sq true (xs.map V.int)) := by tm_at "hp"
      rw [ec] at s3 hp3 nl2
      tm_at "go"
      refine ⟨by omega, by omega, ?_⟩
      have ew : ((xs.length : Int) - (j : Int)).toNat = xs.length - j := by omega
      rw [ew]
      refine lcR (fun _ => true) (fun k => .int (x + 1 + k)) (by omega) (fun _ => rfl) (fun x H' _ _ R k => k _ (Same.refl _)) (fun k H' hk _ s' R r => ?_) (fun D H4 nD s4 hD => ?_)
      · tm_at "go"
        refine ix_sq (s'.g hp3) (at_int (j := j) rfl hx) ?_
        tm_at "go"
        have e0 : (0 : Int) + (k : Int) = k := by omega
        rw [e0]
        exact r _ (Same.refl _)
      rw [filter_yes] at hD
      refine ⟨l2, D, _, _, rfl, rfl, s4.g upd_same, hD, ?_, fun l3 nl3 => ?_⟩
      · have e1 : ((xs.take j).map V.int).length + ((List.range (xs.length - j)).map (fun k : Nat => V.int (x + 1 + (k : Int)))).length ≤ 1000 := by simp; omega
        exact Nat.le_trans e1 (by decide)
      refine ⟨l3, _, rfl, .inl ⟨SqL.of upd_same, fun l4 nl4 => ?_⟩⟩
      refine (q _ (((s3.trans s4).mk nl3).mk nl4)).2 _ l4 en ?_
      rw [upd_same, List.map_append, List.map_map]; rfl

end
section
variable {P : Program} {w : World} {K : PySem.W.Frag} {mg : Str → Option Value} {base : Heap}
/-! ### how many sets there are -/
def wF (m : Int) : Nat → Int
  | 0 => 1
  | k + 1 => wF m k * (m - k) / (k + 1)
theorem wF_small : ∀ n : Nat, n < 8 → ∀ s : Nat, s < 9 → s ≤ n → 1 ≤ wF n s ∧ wF n s < 100 := by decide
def sp_ways : Sp := fun vs H Q _ => ∃ (m s : Nat), vs = [.int (m : Nat), .int (s : Nat)] ∧ s ≤ 1000 ∧ (s ≤ m → ∀ k, k ≤ s → 0 ≤ wF m k ∧ wF m k < 2 ^ 64) ∧ Q (.int (if m < s then 0 else wF m s)) H
theorem ok_ways (T : Txt K mg) : FnOk P w K mg base CX0 1 T.f_ways T.d_ways ["many", "size"] (sp_ways) := by
  refine T.F_ways.ok sc_ways (fun vs H Q E h => ?_) (fun cdv A outer s H vs Q E hr h => ?_)
  · obtain ⟨m, s, rfl, hs, hb, q⟩ := h; rfl
  obtain ⟨m, s, rfl, hs, hb, q⟩ := h
  refine ⟨_, (pss_cons (ps_if (pt_cmpR op_gt (pv 1) (pv 0) (nomark _)) (pss_one (ps_ret pe_int)) pss_nil)
      (pss_cons (ps_set (i := 2) sc_ways.nd rfl (Or.inl rfl) pe_int)
      (pss_cons (ps_for PassesOwn.never rfl (pi_range1 (by rfl) T.n_range (pa_cons (pv 1) pa_nil)) (pg_name (i := 3) sc_ways.nd rfl (Or.inl rfl))
      (pss_one (ps_set (i := 2) sc_ways.nd rfl (Or.inl rfl) (pe_op op_fdivW (pe_op op_mul (pv 2) (pe_op op_sub (pv 0) (pv 3))) (pe_op op_add (pv 3) pe_int)))))
      (pss_one (ps_ret (pv 2)))))), ?_⟩
  tm_at "go"
  by_cases c : m < s
  · rw [if_pos c] at q
    refine ifT (decide_eq_true (by omega)) ?_
    exact q
  · rw [if_neg c] at q
    have hb := hb (by omega)
    refine ifF (decide_eq_false (by omega)) ?_
    refine ⟨_, rfl, _, rfl, by omega, by omega, for_range (lo := 0) (n := (s : Int).toNat) (fun i σ H' => ∃ v, σ = [some (.int m), some (.int s), some (.int (wF m i)), v] ∧ H' = H) ⟨none, rfl, rfl⟩ ?_ ?_⟩
    · rintro i σ H' hi ⟨v, rfl, rfl⟩
      have h := hb i (by omega)
      refine ⟨_, rfl, _, rfl, _, rfl, _, _, rfl, rfl, _, _, rfl, rfl, .inl ⟨by omega, by omega⟩, _, rfl, _, _, rfl, rfl, _, _, rfl, rfl, ⟨by omega, log_of (by omega) (by omega)⟩, ?_⟩
      refine ⟨some (.int (0 + (i : Int))), ?_, rfl⟩
      show [some (V.int m), some (V.int s), some (V.int (wF m i * ((m : Int) - (0 + (i : Int))) / (0 + (i : Int) + 1))), _] = _
      rw [Int.zero_add]
      rfl
    · rintro σ H' ⟨v, rfl, rfl⟩
      have e : (s : Int).toNat = s := by omega
      rw [e]
      exact ⟨_, rfl, q⟩
def sp_setsmany (K : PySem.W.Frag) : Sp := fun vs H Q _ => ∃ (m s : Nat), vs = [.int (m : Nat), .int (s : Nat)] ∧ m < 8 ∧ s ≤ m ∧ Q (.int (wF m s)) H
theorem ok_sets_many (T : Txt K mg) : FnOk P w K mg base CX0 4 T.f_sets_many T.d_sets_many ["many", "size"] (sp_setsmany K) := by
  refine T.F_sets_many.ok sc_sets_many (fun vs H Q E h => ?_) (fun cdv A outer s H vs Q E hr h => ?_)
  · obtain ⟨m, s, rfl, hm, hs, q⟩ := h; rfl
  obtain ⟨m, s, rfl, hm, hs, q⟩ := h
  refine ⟨_, (pss_cons (ps_expr (pe_call (ok_need_many T) (hr.mono (by decide)) rfl T.g_need_many T.k_need_many T.b_need_many .nil pass0 (pa_cons (pv 0) pa_nil)))
      (pss_cons (ps_expr (pe_call (ok_need_many T) (hr.mono (by decide)) rfl T.g_need_many T.k_need_many T.b_need_many .nil pass0 (pa_cons (pv 1) pa_nil)))
      (pss_one (ps_ret (pe_call (ok_ways T) (hr.mono (by decide)) rfl T.g_ways T.k_ways T.b_ways .nil pass0 (pa_cons (pv 0) (pa_cons (pv 1) pa_nil))))))), ?_⟩
  refine ⟨_, rfl, m, rfl, by omega, by omega, ?_⟩
  refine ⟨_, rfl, s, rfl, by omega, by omega, ?_⟩
  refine ⟨_, rfl, _, rfl, m, s, rfl, by omega, fun h k hk => ?_, ?_⟩
  · have := wF_small m hm k (by omega) (by omega)
    omega
  · rw [if_neg (by omega)]
    exact q
def sp_setat (K : PySem.W.Frag) : Sp := fun vs H Q _ => ∃ (m s : Nat), vs = [.int (m : Nat), .int (s : Nat), .int 0] ∧ m < 8 ∧ s ≤ m ∧
  ∀ H' t, Same H H' → H' t = some (.tup ((below s).map V.int)) → Q (.ref t) H'
theorem ok_set_at (T : Txt K mg) : FnOk P w K mg base CX0 5 T.f_set_at T.d_set_at ["many", "size", "rank"] (sp_setat K) := by
  refine T.F_set_at.ok sc_set_at (fun vs H Q E h => ?_) (fun cdv A outer s H vs Q E hr h => ?_)
  · obtain ⟨m, s, rfl, hm, hs, q⟩ := h; rfl
  obtain ⟨m, s, rfl, hm, hs, q⟩ := h
  refine ⟨_, (pss_cons (ps_if (pt_not (pt_val (pe_call (ok_is_within T) (hr.mono (by decide)) rfl T.g_is_within T.k_is_within T.b_is_within .nil pass0 (pa_cons (pv 2) (pa_cons pe_int (pa_cons (pe_op op_sub (pe_call (ok_sets_many T) (hr.mono (by decide)) rfl T.g_sets_many T.k_sets_many T.b_sets_many .nil pass0 (pa_cons (pv 0) (pa_cons (pv 1) pa_nil))) pe_int) pa_nil)))))) (pss_one ps_never) pss_nil)
      (pss_cons (ps_set (i := 3) sc_set_at.nd rfl (Or.inl rfl) (pe_lst pa_nil))
      (pss_cons (ps_for PassesOwn.never rfl (pi_range1 (by rfl) T.n_range (pa_cons (pv 0) pa_nil)) (pg_name (i := 4) sc_set_at.nd rfl (Or.inl rfl))
      (pss_cons (ps_set (i := 5) sc_set_at.nd rfl (Or.inl rfl) (pe_ifExp (pt_cmpR op_lt (pe_callB call_len_seq (by rfl) T.n_len (by decide +kernel) (pa_cons (pv 3) pa_nil)) (pv 1) (nomark _)) (pe_call (ok_ways T) (hr.mono (by decide)) rfl T.g_ways T.k_ways T.b_ways .nil pass0 (pa_cons (pe_op op_sub (pe_op op_sub (pv 0) (pv 4)) pe_int) (pa_cons (pe_op op_sub (pe_op op_sub (pv 1) (pe_callB call_len_seq (by rfl) T.n_len (by decide +kernel) (pa_cons (pv 3) pa_nil))) pe_int) pa_nil))) pe_int))
      (pss_one (ps_if (pt_cmpR op_lt (pv 2) (pv 5) (nomark _)) (pss_one (ps_expr (pe_bm PySem.F.plainAttrs_list PySem.F.slot_list_append PySem.F.type_list_append mt_append (pv 3) (pa_cons (pv 4) pa_nil)))) (pss_one (ps_aug (i := 2) sc_set_at.nd rfl (Or.inl rfl) (pv 5) ip_sub))))))
      (pss_one (ps_ret (pe_callTy call_tuple_of (by rfl) T.n_tuple (by decide +kernel) (pa_cons (pv 3) pa_nil))))))), ?_⟩
  have hw := wF_small m hm s (by omega) hs
  tm_at "go"
  refine ⟨hm, hs, ?_⟩
  tm_at "go"
  refine ⟨_, _, _, _, rfl, kn_int _, ?_⟩
  tm_at "go"
  refine ifF ?_ ?_
  · show (!(decide ((0 : Int) ≤ 0) && decide (0 ≤ wF m s - 1))) = false
    rw [decide_eq_true (by omega), decide_eq_true (by omega)]; rfl
  refine ⟨Nat.le_of_ble_eq_true rfl, fun l nl => ?_⟩
  have s1 := (Same.refl H).mk (o := .lst []) nl
  refine ⟨_, rfl, _, rfl, by omega, by omega, for_range (lo := 0) (n := (m : Int).toNat) (fun i σ H' => ∃ v v', σ = [some (.int m), some (.int s), some (.int 0), some (.ref l), v, v'] ∧ Same H H' ∧ H' l = some (.lst ((below (min i s)).map V.int))) ⟨none, none, rfl, s1, by rw [upd_same, Nat.zero_min]; rfl⟩ ?_ ?_⟩
  · rintro i σ H' hi ⟨v, v', rfl, s', hl⟩
    have hlen : ((below (min i s)).map V.int).length = min i s := by rw [List.length_map, below_len]
    tm_at "go"
    rw [hlen]
    by_cases c : i < s
    · have e : min i s = i := by omega
      have h1 := wF_small (m - i - 1) (by omega) (s - i - 1) (by omega) (by omega)
      rw [e]
      refine ifT (decide_eq_true (by omega)) ?_
      tm_at "go"
      rw [hlen, e]
      refine ⟨m - i - 1, s - i - 1, ?_, by omega, fun h k hk => ?_, ?_⟩
      · have e1 : ((m - i - 1 : Nat) : Int) = (m : Int) - (0 + i) - 1 := by omega
        have e2 : ((s - i - 1 : Nat) : Int) = (s : Int) - i - 1 := by omega
        rw [e1, e2]; rfl
      · have := wF_small (m - i - 1) (by omega) k (by omega) (by omega)
        omega
      rw [if_neg (by omega)]
      tm_at "go"
      refine ifT (decide_eq_true (by omega)) ?_
      tm_at "go"
      refine ⟨l, _, _, rfl, rfl, hl, ?_, ?_⟩
      · rw [hlen]; exact Nat.lt_of_le_of_lt (show min i s ≤ 8 by omega) (by decide)
      refine ⟨_, _, rfl, s'.mut nl, ?_⟩
      have e3 : min (i + 1) s = i + 1 := by omega
      rw [upd_same, e, e3, Int.zero_add]
      unfold below
      rw [List.range_succ]; simp
    · have e : min i s = s := by omega
      have e3 : min (i + 1) s = s := by omega
      rw [e] at hl ⊢
      refine ifF (decide_eq_false (by omega)) ?_
      tm_at "go"
      exact ⟨s', by rw [e3]; exact hl⟩
  · rintro σ H' ⟨v, v', rfl, s', hl⟩
    have e : min (m : Int).toNat s = s := by omega
    rw [e] at hl
    refine ⟨_, rfl, l, _, rfl, .inl ⟨SqL.of hl, fun t nt => ?_⟩⟩
    exact q _ t (s'.mk nt) upd_same
/-! ### the law's sets -/

theorem SetN.below (n : Nat) : SetN n (S.below n) := ⟨below_up n, fun _ h => below_mem h⟩
theorem SetN.sub {n : Int} {xs ys : List Int} (h : SetN n xs) (s : ys.Sublist xs) : SetN n ys := ⟨h.up.sublist s, fun x hx => h.bd x (s.subset hx)⟩
theorem SetN.end {n r : Nat} {xs : List Int} (h : SetN n xs) (hl : xs.length ≤ n) (hr : r ≤ xs.length) : SetN n (xs.take r ++ (S.below n).drop (n - xs.length + r)) := by
  refine ⟨List.pairwise_append.mpr ⟨h.up.sublist (List.take_sublist _ _), (below_up n).sublist (List.drop_sublist _ _), fun a ha b hb => ?_⟩, fun x hx => ?_⟩
  · obtain ⟨i, hi, e⟩ := List.mem_iff_getElem.mp ha
    rw [List.getElem_take] at e
    rw [List.length_take] at hi
    have h1 := h.top (i := i) (x := a) (by rw [List.getElem?_eq_getElem (by omega), e])
    have h2 := (below_drop hb).1
    omega
  · rcases List.mem_append.mp hx with h1 | h1
    · exact h.bd x (List.mem_of_mem_take h1)
    · have := below_drop h1
      omega
theorem SetN.end_len {n r : Nat} {xs : List Int} (hl : xs.length ≤ n) (hr : r ≤ xs.length) : (xs.take r ++ (S.below n).drop (n - xs.length + r)).length = xs.length := by
  rw [List.length_append, List.length_take, List.length_drop, below_len]
  omega
def sp_lset : Sp := fun vs H Q _ => ∃ (a : Addr) (n s : Nat) (x y z : Int), vs = [.ref a, .int (n : Nat), .int (s : Nat)] ∧ H a = some (wl x y z) ∧ s ≤ n ∧ n ≤ 60 ∧
  ∀ H' t xs x' y' z', SetN n xs → xs.length = s → t ≠ a → H t = none → H' t = some (.lst (xs.map V.int)) → H' a = some (wl x' y' z') → Fr a H H' → Q (.ref t) H'
theorem ok_set (T : Txt K mg) : FnOk P w K mg base CX0 2 T.f_set T.d_set ["_law_well_here", "_law_many_here", "_law_size"] (sp_lset) := by
  refine T.F_set.ok sc_set (fun vs H Q E h => ?_) (fun cdv A outer s H vs Q E hr h => ?_)
  · obtain ⟨a, n, s, x, y, z, rfl, hw, hs, hn, q⟩ := h; rfl
  obtain ⟨a, n, s, x, y, z, rfl, hw, hs, hn, q⟩ := h
  refine ⟨_, (C8.pss_cut (ps_set (i := 3) sc_set.nd rfl (Or.inl rfl) (pe_listRg rfl (by rfl) T.n_list (prg_1 (by rfl) T.n_range (pv 1))))
      (C8.pss_cut (ps_while PassesOwn.never (pt_cmpR op_gt (pe_callB call_len_seq (by rfl) T.n_len (by decide +kernel) (pa_cons (pv 3) pa_nil)) (pv 2) (nomark _))
      (pss_one (ps_expr (pe_bm PySem.F.plainAttrs_list PySem.F.slot_list_pop PySem.F.type_list_pop mt_popAt (pv 3) (pa_cons (pe_call (ok_draw T) (hr.mono (by decide)) rfl T.g_draw T.k_draw T.b_draw .nil pass0 (pa_cons (pv 0) (pa_cons (pe_callB call_len_seq (by rfl) T.n_len (by decide +kernel) (pa_cons (pv 3) pa_nil)) pa_nil))) pa_nil)))))
      (pss_cons (ps_set (i := 4) sc_set.nd rfl (Or.inl rfl) (pe_call (ok_draw T) (hr.mono (by decide)) rfl T.g_draw T.k_draw T.b_draw .nil pass0 (pa_cons (pv 0) (pa_cons pe_int pa_nil))))
      (pss_cons (ps_if (pt_cmpR op_eq (pv 4) pe_int (nomark _)) (pss_one (ps_ret (pe_slice sl_list (pe_listRg rfl (by rfl) T.n_list (prg_1 (by rfl) T.n_range (pv 1))) (po_some (pe_op op_sub (pv 1) (pv 2))) po_none))) pss_nil)
      (pss_cons (ps_if (pt_cmpR op_eq (pv 4) pe_int (nomark _)) (pss_cons (ps_set (i := 5) sc_set.nd rfl (Or.inl rfl) (pe_slice sl_list (pv 3) po_none (po_some (pe_call (ok_draw T) (hr.mono (by decide)) rfl T.g_draw T.k_draw T.b_draw .nil pass0 (pa_cons (pv 0) (pa_cons (pe_op op_add (pv 2) pe_int) pa_nil))))))
      (pss_one (ps_ret (pe_op op_cat (pv 5) (pe_slice sl_list (pe_listRg rfl (by rfl) T.n_list (prg_1 (by rfl) T.n_range (pv 1))) (po_some (pe_op op_add (pe_op op_sub (pv 1) (pv 2)) (pe_callB call_len_seq (by rfl) T.n_len (by decide +kernel) (pa_cons (pv 5) pa_nil)))) po_none))))) pss_nil)
      (pss_one (ps_ret (pv 3)))))))), ?_⟩
  refine ⟨fun σ H' => ∃ l, σ = [some (.ref a), some (.int n), some (.int s), some (.ref l), none, none] ∧ l ≠ a ∧ H l = none ∧ H' l = some (.lst ((below n).map V.int)) ∧ H' a = some (wl x y z) ∧ Fr a H H', ?_, ?_⟩
  · tm_at "go"
    refine ⟨⟨by omega, by omega, by omega, by omega, by omega⟩, fun l nl => ?_⟩
    have e : rgV 0 (n : Int) = (below n).map V.int := rg_ints
    rw [e]
    exact ⟨l, rfl, Ne.symm (ne_nn nl hw), nl, upd_same, by tm_at "hp", (Fr.refl a H).mk hw nl⟩
  rintro σ H1 ⟨l, rfl, hla, nl, hl, hw1, f1⟩
  refine ⟨fun σ H' => ∃ (xs : List Int) (x y z : Int), σ = [some (.ref a), some (.int n), some (.int s), some (.ref l), none, none] ∧ SetN n xs ∧ xs.length = s ∧ H' l = some (.lst (xs.map V.int)) ∧ H' a = some (wl x y z) ∧ Fr a H H', ?_, ?_⟩
  · refine while_mo (fun σ H' => ∃ (xs : List Int) (x y z : Int), σ = [some (.ref a), some (.int n), some (.int s), some (.ref l), none, none] ∧ SetN n xs ∧ s ≤ xs.length ∧ H' l = some (.lst (xs.map V.int)) ∧ H' a = some (wl x y z) ∧ Fr a H H') (fun _ H' => match H' l with | some (.lst xs) => xs.length | _ => 0)
      ⟨below n, x, y, z, rfl, SetN.below n, by rw [below_len]; exact hs, hl, hw1, f1⟩ ?_ (by tm_at "mono")
    rintro σ H2 ⟨xs, x2, y2, z2, rfl, hx, hsl, hl2, hw2, f2⟩
    have hxn := SetN.len (by omega) hx
    tm_at "go"
    rw [List.length_map]
    by_cases c : s < xs.length
    · refine ifT (decide_eq_true (by omega)) ?_
      tm_at "go"
      refine ⟨_, _, _, _, _, rfl, hw2, (by rw [List.length_map]; omega), (by rw [List.length_map]; omega), fun r x3 y3 z3 h3 g3 => ?_⟩
      rw [List.length_map] at g3
      obtain ⟨u, hu, _⟩ := get_of (show r.toNat < xs.length by omega)
      refine ⟨l, _, r, r.toNat, .int u, rfl, rfl, (by tm_at "hp"), by omega, by omega, seq_ok h3 (by rw [List.length_map]; omega), by rw [List.getElem?_map, hu]; rfl, ?_⟩
      have el : (xs.eraseIdx r.toNat).length = xs.length - 1 := List.length_eraseIdx_of_lt (by omega)
      refine ⟨⟨xs.eraseIdx r.toNat, x3, y3, z3, rfl, hx.sub (List.eraseIdx_sublist _ _), by omega, by rw [upd_same, erase_map], by tm_at "hp", (f2.trans Fr.put).mut nl⟩, ?_⟩
      rw [upd_same, hl2]
      show ((xs.map V.int).eraseIdx r.toNat).length < (xs.map V.int).length
      rw [List.length_eraseIdx_of_lt (by rw [List.length_map]; omega), List.length_map]
      omega
    · refine ifF (decide_eq_false (by omega)) ?_
      exact ⟨xs, x2, y2, z2, rfl, hx, by omega, hl2, hw2, f2⟩
  rintro σ H2 ⟨xs, x2, y2, z2, rfl, hx, hsl, hl2, hw2, f2⟩
  tm_at "go"
  refine ⟨_, _, _, _, _, rfl, hw2, (by decide), (by decide), fun r x3 y3 z3 h3 g3 => ?_⟩
  have f3 := f2.trans (Fr.put (a := a) (H := H2) (o := wl x3 y3 z3))
  have hl3 : (upd H2 a (wl x3 y3 z3)) l = some (.lst (xs.map V.int)) := by tm_at "hp"
  have erg : rgV 0 (n : Int) = (below n).map V.int := rg_ints
  tm_at "go"
  refine ite2 (fun c => ?_) (fun c => ?_)
  · tm_at "go"
    refine ⟨⟨by omega, by omega, by omega, by omega, by omega⟩, fun l1 nl1 => ?_⟩
    rw [erg]
    have f4 := f3.mk (o := .lst ((below n).map V.int)) upd_same nl1
    tm_at "go"
    refine ⟨l1, _, rfl, SqL.of upd_same, fun l2 nl2 => ?_⟩
    have ec : cutV ((below n).map V.int) (some ((n : Int) - (s : Int))) none = ((below n).drop (n - s)).map V.int := by
      have e : (n : Int) - (s : Int) = ((n - s : Nat) : Int) := by omega
      rw [e, cut_from (by rw [List.length_map, below_len]; omega), List.map_drop]
    rw [ec]
    have hwa : (upd (upd H2 a (wl x3 y3 z3)) l1 (.lst ((below n).map V.int))) a = some (wl x3 y3 z3) := by tm_at "hp"
    exact q _ l2 _ x3 y3 z3 ((SetN.below n).sub (List.drop_sublist _ _)) (by rw [List.length_drop, below_len]; omega) (Ne.symm (ne_nn nl2 hwa)) (f4.free hwa nl2) upd_same (by tm_at "hp") (f4.mk hwa nl2)
  · tm_at "go"
    refine ite2 (fun c => ?_) (fun c => ?_)
    · tm_at "go"
      refine ⟨_, _, _, _, _, rfl, upd_same, by omega, by omega, fun r2 x4 y4 z4 h4 g4 => ?_⟩
      have f4 := f3.trans (Fr.put (a := a) (o := wl x4 y4 z4))
      have hl4 : (upd (upd H2 a (wl x3 y3 z3)) a (wl x4 y4 z4)) l = some (.lst (xs.map V.int)) := by tm_at "hp"
      tm_at "go"
      refine ⟨l, _, rfl, SqL.of hl4, fun l1 nl1 => ?_⟩
      have ec : cutV (xs.map V.int) none (some r2) = (xs.take r2.toNat).map V.int := by
        have e : r2 = ((r2.toNat : Nat) : Int) := by omega
        rw [e, cut_to (by rw [List.length_map]; omega), List.map_take]; rfl
      rw [ec]
      have f5 := f4.mk (o := .lst ((xs.take r2.toNat).map V.int)) upd_same nl1
      have hw5 : (upd (upd (upd H2 a (wl x3 y3 z3)) a (wl x4 y4 z4)) l1 (.lst ((xs.take r2.toNat).map V.int))) a = some (wl x4 y4 z4) := by tm_at "hp"
      tm_at "go"
      refine ⟨⟨by omega, by omega, by omega, by omega, by omega⟩, fun l2 nl2 => ?_⟩
      rw [erg]
      have f6 := f5.mk (o := .lst ((below n).map V.int)) hw5 nl2
      have hw6 : (upd (upd (upd (upd H2 a (wl x3 y3 z3)) a (wl x4 y4 z4)) l1 (.lst ((xs.take r2.toNat).map V.int))) l2 (.lst ((below n).map V.int))) a = some (wl x4 y4 z4) := by tm_at "hp"
      tm_at "go"
      refine ⟨l2, _, rfl, SqL.of upd_same, fun l3 nl3 => ?_⟩
      have ed : cutV ((below n).map V.int) (some ((n : Int) - (s : Int) + (((xs.take r2.toNat).map V.int).length : Nat))) none = ((below n).drop (n - xs.length + r2.toNat)).map V.int := by
        have e : (n : Int) - (s : Int) + (((xs.take r2.toNat).map V.int).length : Nat) = ((n - xs.length + r2.toNat : Nat) : Int) := by
          rw [List.length_map, List.length_take]; omega
        rw [e, cut_from (by rw [List.length_map, below_len]; omega), List.map_drop]
      rw [ed]
      have f7 := f6.mk (o := .lst (((below n).drop (n - xs.length + r2.toNat)).map V.int)) hw6 nl3
      refine ⟨l1, l3, _, _, rfl, rfl, (by tm_at "hp"), upd_same, ?_, fun l4 nl4 => ?_⟩
      · have : ((xs.take r2.toNat).map V.int).length + (((below n).drop (n - xs.length + r2.toNat)).map V.int).length ≤ 1000 := by
          rw [List.length_map, List.length_map, List.length_take, List.length_drop, below_len]; omega
        exact Nat.le_trans this (by decide)
      rw [← List.map_append]
      have hw7 : (upd (upd (upd (upd (upd H2 a (wl x3 y3 z3)) a (wl x4 y4 z4)) l1 (.lst ((xs.take r2.toNat).map V.int))) l2 (.lst ((below n).map V.int))) l3 (.lst (((below n).drop (n - xs.length + r2.toNat)).map V.int))) a = some (wl x4 y4 z4) := by tm_at "hp"
      exact q _ l4 _ x4 y4 z4 (SetN.end hx (by omega) (by omega)) (by rw [SetN.end_len (by omega) (by omega)]; exact hsl) (Ne.symm (ne_nn nl4 hw7)) (f7.free hw7 nl4) upd_same (by tm_at "hp") (f7.mk hw7 nl4)
    · exact ⟨_, rfl, q _ l xs x3 y3 z3 hx hsl hla nl hl3 upd_same f3⟩

end
section
variable {P : Program} {w : World} {K : PySem.W.Frag} {mg : Str → Option Value} {base : Heap}
def sp_lnext (K : PySem.W.Frag) : Sp := fun vs H Q _ => ∃ (n : Int) (p : Addr) (xs : List Int), vs = [.int n, .ref p] ∧ 0 ≤ n ∧ n ≤ 60 ∧ H p = some (.lst (xs.map V.int)) ∧ SetN n xs ∧
  ∀ H', Same H H' → (nxt n xs = none → Q .non H') ∧ (∀ ys t, nxt n xs = some ys → H' t = some (.lst (ys.map V.int)) → Q (.ref t) H')
theorem ok_next (T : Txt K mg) : FnOk P w K mg base CX0 1 T.f_next T.d_next ["_law_many_here", "_law_one"] (sp_lnext K) := by
  refine T.F_next.ok sc_next (fun vs H Q E h => ?_) (fun cdv A outer s H vs Q E hr h => ?_)
  · obtain ⟨n, p, xs, rfl, h0, h1, hp, hs, q⟩ := h; rfl
  obtain ⟨n, p, xs, rfl, h0, h1, hp, hs, q⟩ := h
  refine ⟨_, (pss_cons (ps_set (i := 2) sc_next.nd rfl (Or.inl rfl) (pe_callB call_len_seq (by rfl) T.n_len (by decide +kernel) (pa_cons (pv 1) pa_nil)))
      (pss_cons (ps_for PassesOwn.never rfl (pi_range3 (by rfl) T.n_range (pa_cons (pe_op op_sub (pv 2) pe_int) (pa_cons (pe_un un_neg pe_int) (pa_cons (pe_un un_neg pe_int) pa_nil)))) (pg_name (i := 3) sc_next.nd rfl (Or.inr rfl))
      (pss_one (ps_if (pt_cmpR op_lt (pe_ix ix_list (pv 1) (pv 3) (fun _ _ => rfl)) (pe_op op_add (pe_op op_sub (pv 0) (pv 2)) (pv 3)) (nomark _)) (pss_one (ps_ret (pe_op op_cat (pe_slice sl_list (pv 1) po_none (po_some (pv 3))) (pe_lc (own := [("_law_k", 4)]) (g := gName 4) (tt := tYes) rfl sc_next.nd (pi_range1 (by rfl) T.n_range (pa_cons (pe_op op_sub (pv 2) (pv 3)) pa_nil)) (blkOk_by (own := [("_law_k", 4)]) (N := ["_law_many_here", "_law_one", "_law_size", "_law_at", "_law_k"]) (sc := defScope s_next) (by decide +kernel)) (fun _ _ _ _ _ => (pg_name (i := 4) sc_next.nd rfl (Or.inl rfl))) (fun _ _ _ _ _ => pts_nil) (fun _ _ _ _ _ => (pe_op op_add (pe_op op_add (pe_ix (show IxR _ (rIxL K) from ix_list) (pv 1) (pv 3) (fun _ _ => rfl)) pe_int) (pv 4))))))) pss_nil)))
      (pss_one (ps_ret pe_non)))), ?_⟩
  have hlen := SetN.len h0 hs
  tm_at "go"
  have en : ((((xs.map V.int).length : Nat) : Int) - 1 - -1).toNat = xs.length := by rw [List.length_map]; omega
  refine ⟨_, _, _, _, rfl, RgC.neg (by omega) (by rw [List.length_map]; omega) (by omega) (by omega), ?_⟩
  rw [en, List.length_map]
  refine for_rangeC (lo := (xs.length : Int) - 1) (c := -1) (n := xs.length) (fun i σ H' => ∃ v v', σ = [some (.int n), some (.ref p), some (.int (xs.length : Nat)), v, v'] ∧ H' = H ∧ nxt n xs = nxtAt n xs (xs.length - i)) ⟨none, none, rfl, rfl, rfl⟩ ?_ ?_
  · rintro i σ H' hi ⟨v, v', rfl, rfl, he⟩
    obtain ⟨j, ej⟩ : ∃ j, xs.length - i = j + 1 := ⟨xs.length - i - 1, by omega⟩
    have ev : (xs.length : Int) - 1 + (i : Int) * -1 = (j : Int) := by omega
    obtain ⟨x, hx, hm⟩ := get_of (show j < xs.length by omega)
    have hd : xs.getD j 0 = x := by rw [List.getD_eq_getElem?_getD, hx]; rfl
    have ht := hs.top hx
    rw [ev]
    tm_at "go"
    refine ⟨p, _, _, _, rfl, rfl, SqL.of hp, at_int (j := j) rfl hx, ?_⟩
    tm_at "go"
    rw [ej] at he
    have he2 : nxt n xs = if x = n - xs.length + j then nxtAt n xs j else some (xs.take j ++ (List.range (xs.length - j)).map (fun k : Nat => x + 1 + (k : Int))) := by
      rw [he]; show (if xs.getD j 0 = n - xs.length + j then _ else _) = _
      rw [hd]
    by_cases c : x = n - xs.length + j
    · refine ifF (decide_eq_false (by omega)) ?_
      refine ⟨_, _, rfl, rfl, ?_⟩
      have e2 : xs.length - (i + 1) = j := by omega
      rw [e2, he2, if_pos c]
    · rw [if_neg c] at he2
      refine ifT (decide_eq_true (by omega)) ?_
      tm_at "go"
      refine ⟨p, _, rfl, SqL.of hp, fun l nl => ?_⟩
      have ec : cutV (xs.map V.int) none (some (j : Int)) = (xs.take j).map V.int := by
        rw [cut_to (by rw [List.length_map]; omega), List.map_take]
      rw [ec]
      have s1 := (Same.refl H').mk (o := .lst ((xs.take j).map V.int)) nl
      tm_at "go"
      refine ⟨by omega, by omega, ?_⟩
      have ew : ((xs.length : Int) - (j : Int)).toNat = xs.length - j := by omega
      rw [ew]
      refine lcR (fun _ => true) (fun k => .int (x + 1 + k)) (by omega) (fun _ => rfl) (fun x H' _ _ R k => k _ (Same.refl _)) (fun k H2 hk _ s' R r => ?_) (fun D H4 nD s4 hD => ?_)
      · tm_at "go"
        refine ⟨p, _, _, _, rfl, rfl, SqL.of (s'.g (s1.g hp)), at_int (j := j) rfl hx, ?_⟩
        tm_at "go"
        have e0 : (0 : Int) + (k : Int) = k := by omega
        rw [e0]
        exact r _ (Same.refl _)
      rw [filter_yes] at hD
      refine ⟨l, D, _, _, rfl, rfl, s4.g upd_same, hD, ?_, fun l3 nl3 => ?_⟩
      · have e1 : ((xs.take j).map V.int).length + ((List.range (xs.length - j)).map (fun k : Nat => V.int (x + 1 + (k : Int)))).length ≤ 1000 := by simp; omega
        exact Nat.le_trans e1 (by decide)
      refine (q _ ((s1.trans s4).mk nl3)).2 _ l3 he2 ?_
      rw [upd_same, List.map_append, List.map_map]; rfl
  · rintro σ H' ⟨v, v', rfl, rfl, he⟩
    rw [Nat.sub_self] at he
    exact (q _ (Same.refl _)).1 he
/-- a told next one is right -/
def sp_lnr (K : PySem.W.Frag) : Sp := fun vs H Q _ => ∃ (n : Int) (p : Addr) (v : V) (xs : List Int), vs = [.int n, .ref p, v] ∧ 0 ≤ n ∧ n ≤ 60 ∧ H p = some (.lst (xs.map V.int)) ∧ SetN n xs ∧
  ((nxt n xs = none ∧ v = .non) ∨ ∃ ys t, nxt n xs = some ys ∧ ys.length ≤ 1000 ∧ v = .ref t ∧ H t = some (.tup (ys.map V.int))) ∧ ∀ H', Same H H' → Q (.bl true) H'
theorem ok_next_right (T : Txt K mg) : FnOk P w K mg base CX0 2 T.f_next_right T.d_next_right ["_law_many_here", "_law_one", "_law_told_here"] (sp_lnr K) := by
  refine T.F_next_right.ok sc_next_right (fun vs H Q E h => ?_) (fun cdv A outer s H vs Q E hr h => ?_)
  · obtain ⟨n, p, v, xs, rfl, h0, h1, hp, hs, hv, q⟩ := h; rfl
  obtain ⟨n, p, v, xs, rfl, h0, h1, hp, hs, hv, q⟩ := h
  refine ⟨_, (pss_cons (ps_set (i := 3) sc_next_right.nd rfl (Or.inl rfl) (pe_call (ok_next T) (hr.mono (by decide)) rfl T.g_next T.k_next T.b_next .nil pass0 (pa_cons (pv 0) (pa_cons (pv 1) pa_nil))))
      (pss_cons (ps_if (PW.pt (pw_or (pt_cmpR op_isN (pv 3) pe_non (nomark _)) (pw_or1 (pt_cmpR op_isN (pv 2) pe_non (nomark _))))) (pss_one (ps_ret (pe_and (pe_cmpR op_isN (pv 3) pe_non (nomark _)) (pe_one (pe_cmpR op_isN (pv 2) pe_non (nomark _)))))) pss_nil)
      (pss_one (ps_ret (pe_call (ok_told T) (hr.mono (by decide)) rfl T.g_told T.k_told T.b_told .nil pass0 (pa_cons (pv 2) (pa_cons (pv 3) pa_nil))))))), ?_⟩
  tm_at "go"
  refine ⟨n, p, xs, rfl, h0, h1, hp, hs, fun H1 s1 => ⟨fun hn => ?_, fun ys t hn ht => ?_⟩⟩
  · rcases hv with ⟨_, rfl⟩ | ⟨ys, t, h, _⟩
    · tm_at "go"
      exact q _ s1
    · rw [hn] at h; cases h
  · rcases hv with ⟨h, _⟩ | ⟨ys', t', h, hl, rfl, ht'⟩
    · rw [hn] at h; cases h
    · rw [hn] at h
      cases h
      tm_at "go"
      exact ⟨t', t, false, ys, rfl, s1.g ht', ht, hl, fun H2 s2 => q _ (s1.trans s2)⟩

end
section
variable {P : Program} {w : World} {K : PySem.W.Frag} {mg : Str → Option Value} {base : Heap}
/-! ### all sets of few things, one behind the other -/
def nexts (n : Int) : Nat → List Int → List (List Int)
  | 0, _ => []
  | f + 1, xs => xs :: (match nxt n xs with
    | none => []
    | some ys => nexts n f ys)
def rises : List Int → Bool
  | [] => true
  | x :: r => r.all (fun y => decide (x < y)) && rises r
def allOk (n s : Nat) : Bool :=
  let L := nexts n 40 (below s)
  decide ((L.length : Int) = wF n s) && (decide (L[0]? = some (below s)) && (List.range L.length).all fun j =>
    let xs := L.getD j []
    decide (nxt n xs = L[j + 1]?) && (rises xs && (xs.all (fun x => decide (0 ≤ x) && decide (x < n)) && (decide (xs.length = s) && match L[j + 1]? with
      | none => true
      | some ys => !leT ys xs))))
theorem allOk_all : ∀ n : Nat, n < 8 → ∀ s : Nat, s < 8 → s ≤ n → allOk n s = true := by decide +kernel
theorem rises_up : ∀ {xs : List Int}, rises xs = true → xs.Pairwise (· < ·)
  | [], _ => .nil
  | x :: r, h => by
    have h := Bool.and_eq_true_iff.mp h
    exact .cons (fun y hy => of_decide_eq_true (List.all_eq_true.mp h.1 y hy)) (rises_up h.2)
structure Chain (n s : Nat) (L : List (List Int)) : Prop where
  len : (L.length : Int) = wF n s
  first : L[0]? = some (below s)
  next : ∀ (j : Nat) xs, L[j]? = some xs → nxt n xs = L[j + 1]?
  set : ∀ (j : Nat) xs, L[j]? = some xs → SetN n xs
  size : ∀ (j : Nat) xs, L[j]? = some xs → xs.length = s
  up : ∀ (j : Nat) xs ys, L[j]? = some xs → L[j + 1]? = some ys → leT ys xs = false
theorem chain_ex {n s : Nat} (hn : n < 8) (hs : s ≤ n) : ∃ L, Chain n s L := by
  have h := allOk_all n hn s (by omega) hs
  unfold allOk at h
  refine ⟨nexts n 40 (below s), ?_⟩
  generalize nexts n 40 (below s) = L at h
  obtain ⟨h1, h⟩ := Bool.and_eq_true_iff.mp h
  obtain ⟨h2, h⟩ := Bool.and_eq_true_iff.mp h
  have key : ∀ (j : Nat) xs, L[j]? = some xs → nxt n xs = L[j + 1]? ∧ SetN n xs ∧ xs.length = s ∧ ∀ ys, L[j + 1]? = some ys → leT ys xs = false := by
    intro j xs hj
    have e : L.getD j [] = xs := by rw [List.getD_eq_getElem?_getD, hj]; rfl
    have h := List.all_eq_true.mp h j (List.mem_range.mpr (get_lt hj))
    rw [e] at h
    obtain ⟨a1, h⟩ := Bool.and_eq_true_iff.mp h
    obtain ⟨a2, h⟩ := Bool.and_eq_true_iff.mp h
    obtain ⟨a3, h⟩ := Bool.and_eq_true_iff.mp h
    obtain ⟨a4, h⟩ := Bool.and_eq_true_iff.mp h
    refine ⟨of_decide_eq_true a1, ⟨rises_up a2, fun x hx => ?_⟩, of_decide_eq_true a4, fun ys hy => ?_⟩
    · have := Bool.and_eq_true_iff.mp (List.all_eq_true.mp a3 x hx)
      exact ⟨of_decide_eq_true this.1, of_decide_eq_true this.2⟩
    · rw [hy] at h
      simpa using h
  exact ⟨of_decide_eq_true h1, of_decide_eq_true h2, fun j xs h => (key j xs h).1, fun j xs h => (key j xs h).2.1, fun j xs h => (key j xs h).2.2.1, fun j xs ys h h' => (key j xs h).2.2.2 ys h'⟩
theorem mo_sets (K : PySem.W.Frag) (E : XK) : ∀ vs H (Q Q' : VK), (∀ v H1, Q v H1 → Q' v H1) → sp_setsmany K vs H Q E → sp_setsmany K vs H Q' E :=
  fun _ _ _ _ q ⟨m, s, e, h1, h2, h⟩ => ⟨m, s, e, h1, h2, q _ _ h⟩
def sp_lall (K : PySem.W.Frag) : Sp := fun vs H Q _ => ∃ (n s : Nat), vs = [.int (n : Nat), .int (s : Nat)] ∧ n < 8 ∧ s ≤ n ∧ ∀ H', Same H H' → Q (.bl true) H'
theorem ok_all (T : Txt K mg) : FnOk P w K mg base CX0 6 T.f_all T.d_all ["_law_many_here", "_law_size"] (sp_lall K) := by
  refine T.F_all.ok sc_all (fun vs H Q E h => ?_) (fun cdv A outer s H vs Q E hr h => ?_)
  · obtain ⟨n, s, rfl, hn, hs, q⟩ := h; rfl
  obtain ⟨n, s, rfl, hn, hs, q⟩ := h
  refine ⟨_, (pss_cons (ps_set (i := 2) sc_all.nd rfl (Or.inl rfl) (pe_call (ok_set_at T) (hr.mono (by decide)) rfl T.g_set_at T.k_set_at T.b_set_at .nil pass0 (pa_cons (pv 0) (pa_cons (pv 1) (pa_cons pe_int pa_nil)))))
      (pss_cons (ps_if (pt_not (pt_val (pe_call (ok_told T) (hr.mono (by decide)) rfl T.g_told T.k_told T.b_told .nil pass0 (pa_cons (pv 2) (pa_cons (pe_listRg rfl (by rfl) T.n_list (prg_1 (by rfl) T.n_range (pv 1))) pa_nil))))) (pss_one (ps_ret pe_bl)) pss_nil)
      (pss_cons (ps_set (i := 3) sc_all.nd rfl (Or.inl rfl) pe_int)
      (pss_cons (ps_while PassesOwn.never (pt_cmpR op_le (pv 3) (pe_call (ok_sets_many T) (hr.mono (by decide)) rfl T.g_sets_many T.k_sets_many T.b_sets_many .nil pass0 (pa_cons (pv 0) (pa_cons (pv 1) pa_nil))) (nomark _))
      (pss_cons (ps_set (i := 4) sc_all.nd rfl (Or.inl rfl) (pe_call (ok_next_set T) (hr.mono (by decide)) rfl T.g_next_set T.k_next_set T.b_next_set .nil pass0 (pa_cons (pv 0) (pa_cons (pv 2) pa_nil))))
      (pss_cons (ps_if (PW.pt (pw_or (pt_not (pt_val (pe_call (ok_next_right T) (hr.mono (by decide)) rfl T.g_next_right T.k_next_right T.b_next_right .nil pass0 (pa_cons (pv 0) (pa_cons (pe_callTy call_list_of (by rfl) T.n_list (by decide +kernel) (pa_cons (pv 2) pa_nil)) (pa_cons (pv 4) pa_nil)))))) (pw_or1 (PW.pt (pw_and (pt_cmpR op_notN (pv 4) pe_non (nomark _)) (pw_and1 (pt_cmpR (op_leT hr.units0) (pv 4) (pv 2) (nomark _)))))))) (pss_one (ps_ret pe_bl)) pss_nil)
      (pss_cons (ps_if (pt_cmpR op_isN (pv 4) pe_non (nomark _)) (pss_one (ps_ret (pe_cmpR op_eq (pv 3) (pe_call (ok_sets_many T) (hr.mono (by decide)) rfl T.g_sets_many T.k_sets_many T.b_sets_many .nil pass0 (pa_cons (pv 0) (pa_cons (pv 1) pa_nil))) (nomark _)))) pss_nil)
      (pss_cons (ps_set (i := 2) sc_all.nd rfl (Or.inl rfl) (pv 4))
      (pss_one (ps_set (i := 3) sc_all.nd rfl (Or.inl rfl) (pe_op op_add (pv 3) pe_int))))))))
      (pss_one (ps_ret pe_bl)))))), ?_⟩
  obtain ⟨L, C⟩ := chain_ex hn hs
  tm_at "go"
  refine ⟨hn, hs, fun H1 o s1 ho => ?_⟩
  tm_at "go"
  refine ⟨⟨by omega, by omega, by omega, by omega, by omega⟩, fun l nl => ?_⟩
  have erg : rgV 0 (s : Int) = (below s).map V.int := rg_ints
  rw [erg]
  have s2 := s1.mk (o := .lst ((below s).map V.int)) nl
  refine ⟨o, l, false, below s, rfl, (by tm_at "hp"), upd_same, by rw [below_len]; omega, fun H2 s3 => ?_⟩
  have ho2 : H2 o = some (.tup ((below s).map V.int)) := s3.g (by tm_at "hp")
  tm_at "go"
  refine while_mo (fun σ H' => ∃ (j : Nat) (o : Addr) (v : Option V) (xs : List Int), σ = [some (.int n), some (.int s), some (.ref o), some (.int ((j : Int) + 1)), v] ∧ L[j]? = some xs ∧ H' o = some (.tup (xs.map V.int)) ∧ Same H H') (fun σ _ => match σ with | [_, _, _, some (.int a), _] => (L.length + 1) - a.toNat | _ => 0)
    ⟨0, o, none, below s, rfl, C.first, ho2, s2.trans s3⟩ ?_ (mo_test (mo_op (mo_rI0 _) (mo_var _) (mo_call (mo_sets K _) (by tm_at "mono"))))
  rintro σ H3 ⟨j, o, v, xs, rfl, hj, ho, s4⟩
  have hjl := get_lt hj
  have cl := C.len
  tm_at "go"
  refine ⟨hn, hs, ?_⟩
  tm_at "go"
  refine ifT (decide_eq_true (by omega)) ?_
  tm_at "go"
  have hset := C.set j xs hj
  have hnx := C.next j xs hj
  have hsz := C.size j xs hj
  refine ⟨n, o, true, xs, rfl, by omega, by omega, ho, hset, fun H4 s5 => ⟨fun hno => ?_, fun ys t hys ht => ?_⟩⟩
  · tm_at "go"
    refine fun l2 nl2 => ?_
    have s6 := (Same.refl H4).mk (o := .lst (xs.map V.int)) nl2
    tm_at "go"
    refine ⟨n, l2, .non, xs, rfl, by omega, by omega, upd_same, hset, .inl ⟨hno, rfl⟩, fun H5 s7 => ?_⟩
    tm_at "go"
    refine ⟨hn, hs, ?_⟩
    tm_at "go"
    have ej : L.length = j + 1 := by
      rw [hno] at hnx
      have := List.getElem?_eq_none_iff.mp hnx.symm
      omega
    have e : decide (V.int ((j : Int) + 1) = V.int (wF n s)) = true := decide_eq_true (by rw [← cl, ej]; rfl)
    rw [e]
    exact q _ (((s4.trans s5).trans s6).trans s7)
  · tm_at "go"
    refine fun l2 nl2 => ?_
    have s6 := (Same.refl H4).mk (o := .lst (xs.map V.int)) nl2
    have hy : L[j + 1]? = some ys := hnx.symm.trans hys
    tm_at "go"
    refine ⟨n, l2, .ref t, xs, rfl, by omega, by omega, upd_same, hset, .inr ⟨ys, t, hys, by have := C.size _ _ hy; omega, rfl, s6.g ht⟩, fun H5 s7 => ?_⟩
    tm_at "go"
    have ht5 := s7.g (s6.g ht)
    have ho5 := s7.g (s6.g (s5.g ho))
    refine le_t ht5 ho5 ?_
    rw [C.up j xs ys hj hy]
    tm_at "go"
    refine ⟨⟨j + 1, t, _, ys, rfl, hy, ht5, ((s4.trans s5).trans s6).trans s7⟩, ?_⟩
    show L.length + 1 - ((j : Int) + 1 + 1).toNat < L.length + 1 - ((j : Int) + 1).toNat
    omega
theorem nxtAt_len {n : Int} {xs ys : List Int} : ∀ {j : Nat}, j ≤ xs.length → nxtAt n xs j = some ys → ys.length = xs.length
  | 0, _, h => by cases h
  | j + 1, hj, h => by
    have h : (if xs.getD j 0 = n - xs.length + j then nxtAt n xs j else some (xs.take j ++ (List.range (xs.length - j)).map (fun k : Nat => xs.getD j 0 + 1 + (k : Int)))) = some ys := h
    by_cases c : xs.getD j 0 = n - xs.length + j
    · rw [if_pos c] at h
      exact nxtAt_len (by omega) h
    · rw [if_neg c] at h
      cases h
      simp
      omega
/-! ### the law -/
def sp_law (K : PySem.W.Frag) : Sp := fun vs H Q _ => ∃ (a : Addr) (ns : List Int), vs = [.ref a] ∧ SqL K H a (ns.map V.int) ∧ ns.length ≤ 63 ∧ ∀ H', Q (.bl true) H'
theorem ok_law (T : Txt K mg) : FnOk P w K mg base CX0 7 T.f_law T.d_law ["_law_script"] (sp_law K) := by
  refine T.F_law.ok sc_law (fun vs H Q E h => ?_) (fun cdv A outer s H vs Q E hr h => ?_)
  · obtain ⟨a, sc, rfl, hS, hl63, q⟩ := h; rfl
  obtain ⟨a, sc, rfl, hS, hl63, q⟩ := h
  refine ⟨_, (pss_cons (ps_for PassesOwn.never rfl (pi_range1 (by rfl) T.n_range (pa_cons (pe_callB (call_max2 rfl) (by rfl) T.n_max (by decide +kernel) (pa_cons pe_int (pa_cons (pe_callB (call_min2 rfl) (by rfl) T.n_min (by decide +kernel) (pa_cons (pe_callB call_len_seq (by rfl) T.n_len (by decide +kernel) (pa_cons (pv 0) pa_nil)) (pa_cons pe_int pa_nil))) pa_nil))) pa_nil)) (pg_name (i := 1) sc_law.nd rfl (Or.inl rfl))
      (pss_cons (ps_set (i := 2) sc_law.nd rfl (Or.inl rfl) (pe_call (ok_well T) (hr.mono (by decide)) rfl T.g_well T.k_well T.b_well .nil pass0 (pa_cons (pe_call (ok_cell T) (hr.mono (by decide)) rfl T.g_cell T.k_cell T.b_cell .nil pass0 (pa_cons (pv 0) (pa_cons (pv 1) pa_nil))) pa_nil)))
      (C8.pss_cut (ps_set (i := 3) sc_law.nd rfl (Or.inl rfl) (pe_call (ok_many T) (hr.mono (by decide)) rfl T.g_many T.k_many T.b_many .nil pass0 (pa_cons (pv 2) (pa_cons pe_int pa_nil))))
      (C8.pss_cut (ps_set (i := 4) sc_law.nd rfl (Or.inl rfl) (pe_call (ok_set T) (hr.mono (by decide)) rfl T.g_set T.k_set T.b_set .nil pass0 (pa_cons (pv 2) (pa_cons (pv 3) (pa_cons (pe_call (ok_draw T) (hr.mono (by decide)) rfl T.g_draw T.k_draw T.b_draw .nil pass0 (pa_cons (pv 2) (pa_cons (pe_op op_add (pv 3) pe_int) pa_nil))) pa_nil)))))
      (C8.pss_cut (ps_set (i := 5) sc_law.nd rfl (Or.inl rfl) (pe_ix ix_list (pe_lst (pa_cons (pe_callTy call_list_of (by rfl) T.n_list (by decide +kernel) (pa_cons (pv 4) pa_nil)) (pa_cons (pe_callTy call_tuple_of (by rfl) T.n_tuple (by decide +kernel) (pa_cons (pv 4) pa_nil)) pa_nil))) (pe_call (ok_draw T) (hr.mono (by decide)) rfl T.g_draw T.k_draw T.b_draw .nil pass0 (pa_cons (pv 2) (pa_cons pe_int pa_nil))) (fun _ _ => rfl)))
      (C8.pss_cut (ps_if (PW.pt (pw_or (pt_not (pt_val (pe_call (ok_next_right T) (hr.mono (by decide)) rfl T.g_next_right T.k_next_right T.b_next_right .nil pass0 (pa_cons (pv 3) (pa_cons (pv 4) (pa_cons (pe_call (ok_next_set T) (hr.mono (by decide)) rfl T.g_next_set T.k_next_set T.b_next_set .nil pass0 (pa_cons (pv 3) (pa_cons (pv 5) pa_nil))) pa_nil)))))) (pw_or1 (pt_cmpR (op_neD hr.units) (pe_callTy call_list_of (by rfl) T.n_list (by decide +kernel) (pa_cons (pv 5) pa_nil)) (pv 4) (nomark _))))) (pss_one (ps_ret pe_bl)) pss_nil)
      (pss_cons (ps_set (i := 6) sc_law.nd rfl (Or.inl rfl) (pe_call (ok_draw T) (hr.mono (by decide)) rfl T.g_draw T.k_draw T.b_draw .nil pass0 (pa_cons (pv 2) (pa_cons pe_int pa_nil))))
      (pss_one (ps_if (PW.pt (pw_and (pt_cmpR op_eq (pe_call (ok_draw T) (hr.mono (by decide)) rfl T.g_draw T.k_draw T.b_draw .nil pass0 (pa_cons (pv 2) (pa_cons pe_int pa_nil))) pe_int (nomark _)) (pw_and1 (pt_not (pt_val (pe_call (ok_all T) (hr.mono (by decide)) rfl T.g_all T.k_all T.b_all .nil pass0 (pa_cons (pv 6) (pa_cons (pe_call (ok_draw T) (hr.mono (by decide)) rfl T.g_draw T.k_draw T.b_draw .nil pass0 (pa_cons (pv 2) (pa_cons (pe_op op_add (pv 6) pe_int) pa_nil))) pa_nil)))))))) (pss_one (ps_ret pe_bl)) pss_nil)))))))))
      (pss_one (ps_ret pe_bl))), ?_⟩
  refine ⟨_, rfl, a, _, rfl, .inl hS, _, _, rfl, _, _, rfl, _, rfl, ?_, ?_, ?_⟩
  · split <;> split <;> omega
  · split <;> split <;> omega
  refine for_range (lo := 0) (n := _) (fun i σ H' => ∃ v1 v2 v3 v4 v5 v6, σ = [some (.ref a), v1, v2, v3, v4, v5, v6] ∧ Same H H')
    ⟨_, _, _, _, _, _, rfl, Same.refl _⟩ ?_ ?_
  · rintro i σ H0 hi ⟨v1, v2, v3, v4, v5, v6, rfl, s0⟩
    tm_at "go"
    refine ⟨a, sc, _, rfl, s0.seq hS, by omega, fun c => ?_⟩
    tm_at "go"
    refine fun w x0 y0 z0 nw => ?_
    have nwH : H w = none := s0.free nw
    refine ⟨fun σ H' => ∃ (n : Nat) (x y z : Int), σ = [some (.ref a), some (.int (0 + (i : Int))), some (.ref w), some (.int n), v4, v5, v6] ∧ n ≤ 60 ∧ H' w = some (wl x y z) ∧ Same H H', ?_, ?_⟩
    · tm_at "go"
      refine ⟨w, 60, x0, y0, z0, rfl, upd_same, by decide, by decide, fun r x1 y1 z1 H1 r0 r1 hw1 f1 => ?_⟩
      have er : ((r.toNat : Nat) : Int) = r := by omega
      exact ⟨r.toNat, x1, y1, z1, by rw [er]; rfl, by omega, hw1, (s0.mk nw).fr nwH f1⟩
    rintro σ H1 ⟨n, x1, y1, z1, rfl, hn, hw1, s1⟩
    refine ⟨fun σ H' => ∃ (o : Addr) (xs : List Int) (x y z : Int), σ = [some (.ref a), some (.int (0 + (i : Int))), some (.ref w), some (.int n), some (.ref o), v5, v6] ∧ SetN n xs ∧ o ≠ w ∧ H' o = some (.lst (xs.map V.int)) ∧ H' w = some (wl x y z) ∧ Same H H', ?_, ?_⟩
    · tm_at "go"
      refine ⟨_, _, _, _, _, rfl, hw1, by omega, by omega, fun r x2 y2 z2 r0 r1 => ?_⟩
      have er : ((r.toNat : Nat) : Int) = r := by omega
      refine ⟨w, n, r.toNat, x2, y2, z2, by rw [er]; rfl, upd_same, by omega, hn, fun H2 t xs x3 y3 z3 hx hl htw nt ht hw3 f3 => ?_⟩
      exact ⟨t, xs, x3, y3, z3, rfl, hx, htw, ht, hw3, (s1.mut nwH).fr nwH f3⟩
    rintro σ H2 ⟨o, xs, x2, y2, z2, rfl, hx, how, ho, hw2, s2⟩
    have hxl := SetN.len (by omega) hx
    refine ⟨fun σ H' => ∃ (hd : Addr) (b : Bool) (x y z : Int), σ = [some (.ref a), some (.int (0 + (i : Int))), some (.ref w), some (.int n), some (.ref o), some (.ref hd), v6] ∧ hd ≠ w ∧ H' hd = some (sq b (xs.map V.int)) ∧ H' o = some (.lst (xs.map V.int)) ∧ H' w = some (wl x y z) ∧ Same H H', ?_, ?_⟩
    · tm_at "go"
      refine fun l1 nl1 => ?_
      have e1 : l1 ≠ w := Ne.symm (ne_nn nl1 hw2)
      have hw3 : upd H2 l1 (.lst (xs.map V.int)) w = some (wl x2 y2 z2) := by tm_at "hp"
      have ho3 : upd H2 l1 (.lst (xs.map V.int)) o = some (.lst (xs.map V.int)) := by tm_at "hp"
      refine ⟨_, rfl, o, _, rfl, .inl ⟨SqL.of ho3, fun l2 nl2 => ?_⟩⟩
      have e2 : l2 ≠ w := Ne.symm (ne_nn nl2 hw3)
      have e12 : l1 ≠ l2 := ne_nn nl2 upd_same
      have hw4 : upd (upd H2 l1 (.lst (xs.map V.int))) l2 (.tup (xs.map V.int)) w = some (wl x2 y2 z2) := by tm_at "hp"
      have ho4 : upd (upd H2 l1 (.lst (xs.map V.int))) l2 (.tup (xs.map V.int)) o = some (.lst (xs.map V.int)) := by tm_at "hp"
      refine ⟨Nat.le_of_ble_eq_true rfl, fun l3 nl3 => ?_⟩
      have e3 : l3 ≠ w := Ne.symm (ne_nn nl3 hw4)
      have e13 : l1 ≠ l3 := ne_nn nl3 (by tm_at "hp")
      have e23 : l2 ≠ l3 := ne_nn nl3 (by tm_at "hp")
      have es3 : o ≠ l3 := ne_nn nl3 ho4
      have s3 := ((s2.mk nl1).mk nl2).mk (o := .lst [.ref l1, .ref l2]) nl3
      tm_at "go"
      refine ⟨_, _, _, _, _, rfl, (by tm_at "hp"), (by decide), (by decide), fun r x y z hr0 hr1 => ?_⟩
      have cs : r = 0 ∨ r = 1 := by omega
      rcases cs with rfl | rfl
      · refine ⟨l3, _, 0, .ref l1, rfl, rfl, SqL.of (by tm_at "hp"), rfl, ?_⟩
        exact ⟨l1, false, x, y, z, rfl, e1, by tm_at "hp", by tm_at "hp", upd_same, s3.mut nwH⟩
      · refine ⟨l3, _, 1, .ref l2, rfl, rfl, SqL.of (by tm_at "hp"), rfl, ?_⟩
        exact ⟨l2, true, x, y, z, rfl, e2, by tm_at "hp", by tm_at "hp", upd_same, s3.mut nwH⟩
    rintro σ H3 ⟨hd, b, x3, y3, z3, rfl, hdw, hhd, ho3, hw3, s3⟩
    refine ⟨fun σ H' => σ = [some (.ref a), some (.int (0 + (i : Int))), some (.ref w), some (.int n), some (.ref o), some (.ref hd), v6] ∧ H' w = some (wl x3 y3 z3) ∧ Same H H', ?_, ?_⟩
    · tm_at "go"
      refine ⟨n, hd, b, xs, rfl, by omega, by omega, hhd, hx, fun H4 s4 => ⟨fun hno => ?_, fun ys t hys ht => ?_⟩⟩
      · refine ⟨n, o, .non, xs, rfl, by omega, by omega, s4.g ho3, hx, .inl ⟨hno, rfl⟩, fun H5 s5 => ?_⟩
        have s35 := s4.trans s5
        tm_at "go"
        refine fun l nl => ?_
        have s6 := s35.mk (o := .lst (xs.map V.int)) nl
        refine ⟨_, rfl, neI (b := false) (c := false) upd_same (s6.g ho3) ?_⟩
        tm_at "go"
        refine ifF (by simp) ?_
        exact ⟨rfl, s6.g hw3, s3.trans s6⟩
      · refine ⟨n, o, .ref t, xs, rfl, by omega, by omega, s4.g ho3, hx, .inr ⟨ys, t, hys, by have := nxtAt_len (Nat.le_refl _) hys; omega, rfl, ht⟩, fun H5 s5 => ?_⟩
        have s35 := s4.trans s5
        tm_at "go"
        refine fun l nl => ?_
        have s6 := s35.mk (o := .lst (xs.map V.int)) nl
        refine ⟨_, rfl, neI (b := false) (c := false) upd_same (s6.g ho3) ?_⟩
        tm_at "go"
        refine ifF (by simp) ?_
        exact ⟨rfl, s6.g hw3, s3.trans s6⟩
    rintro σ H4 ⟨rfl, hw4, s4⟩
    tm_at "go"
    refine ⟨_, _, _, _, _, rfl, hw4, by decide, by decide, fun r x5 y5 z5 r0 r1 => ?_⟩
    have er : ((r.toNat : Nat) : Int) = r := by omega
    have s5 := s4.mut (o := wl x5 y5 z5) nwH
    tm_at "go"
    refine ⟨_, _, _, _, _, rfl, upd_same, by decide, by decide, fun r2 x6 y6 z6 _ _ => ?_⟩
    have s6 := s5.mut (o := wl x6 y6 z6) nwH
    tm_at "go"
    refine ite2 (fun c => ?_) (fun c => ?_)
    · tm_at "go"
      refine ⟨_, _, _, _, _, rfl, upd_same, by omega, by omega, fun r3 x7 y7 z7 h7 g7 => ?_⟩
      have er3 : ((r3.toNat : Nat) : Int) = r3 := by omega
      have s7 := s6.mut (o := wl x7 y7 z7) nwH
      refine ⟨r.toNat, r3.toNat, by rw [er, er3]; rfl, by omega, by omega, fun H8 s8 => ?_⟩
      tm_at "go"
      exact ⟨_, _, _, _, _, _, rfl, s7.trans s8⟩
    · refine ifF rfl ?_
      exact ⟨_, _, _, _, _, _, rfl, s6⟩
  · rintro σ H' ⟨v1, v2, v3, v4, v5, v6, rfl, s0⟩
    exact q _

end
theorem all_mk {l : PySem.W.OpenLaw} {w : World} {K : PySem.W.Frag} {h : Heap} {mg : Str → Option Value} {fa : Addr} (X : K.In h) (G : h.Ns mainGlobals mg) (hfa : mg "law" = some (.ref fa))
    {f1 : Addr} {od1 an1 : Option Addr} {sl1 : Array (Option Value)} {oc1 kV1 dc1 pm1 cd1 ct1 : Value}
    {f2 : Addr} {od2 an2 : Option Addr} {sl2 : Array (Option Value)} {oc2 kV2 dc2 pm2 cd2 ct2 : Value}
    {f3 : Addr} {od3 an3 : Option Addr} {sl3 : Array (Option Value)} {oc3 kV3 dc3 pm3 cd3 ct3 : Value}
    {f4 : Addr} {od4 an4 : Option Addr} {sl4 : Array (Option Value)} {oc4 kV4 dc4 pm4 cd4 ct4 : Value}
    {f5 : Addr} {od5 an5 : Option Addr} {sl5 : Array (Option Value)} {oc5 kV5 dc5 pm5 cd5 ct5 : Value}
    {f6 : Addr} {od6 an6 : Option Addr} {sl6 : Array (Option Value)} {oc6 kV6 dc6 pm6 cd6 ct6 : Value}
    {f7 : Addr} {od7 an7 : Option Addr} {sl7 : Array (Option Value)} {oc7 kV7 dc7 pm7 cd7 ct7 : Value}
    {f8 : Addr} {od8 an8 : Option Addr} {sl8 : Array (Option Value)} {oc8 kV8 dc8 pm8 cd8 ct8 : Value}
    {f9 : Addr} {od9 an9 : Option Addr} {sl9 : Array (Option Value)} {oc9 kV9 dc9 pm9 cd9 ct9 : Value}
    {f10 : Addr} {od10 an10 : Option Addr} {sl10 : Array (Option Value)} {oc10 kV10 dc10 pm10 cd10 ct10 : Value}
    {f11 : Addr} {od11 an11 : Option Addr} {sl11 : Array (Option Value)} {oc11 kV11 dc11 pm11 cd11 ct11 : Value}
    {f12 : Addr} {od12 an12 : Option Addr} {sl12 : Array (Option Value)} {oc12 kV12 dc12 pm12 cd12 ct12 : Value}
    {f13 : Addr} {od13 an13 : Option Addr} {sl13 : Array (Option Value)} {oc13 kV13 dc13 pm13 cd13 ct13 : Value}
    {f14 : Addr} {od14 an14 : Option Addr} {sl14 : Array (Option Value)} {oc14 kV14 dc14 pm14 cd14 ct14 : Value}
    {f15 : Addr} {od15 an15 : Option Addr} {sl15 : Array (Option Value)} {oc15 kV15 dc15 pm15 cd15 ct15 : Value}
    {f16 : Addr} {od16 an16 : Option Addr} {sl16 : Array (Option Value)} {oc16 kV16 dc16 pm16 cd16 ct16 : Value}
    {f17 : Addr} {od17 an17 : Option Addr} {sl17 : Array (Option Value)} {oc17 kV17 dc17 pm17 cd17 ct17 : Value}
    {f18 : Addr} {od18 an18 : Option Addr} {sl18 : Array (Option Value)} {oc18 kV18 dc18 pm18 cd18 ct18 : Value}
    {f19 : Addr} {od19 an19 : Option Addr} {sl19 : Array (Option Value)} {oc19 kV19 dc19 pm19 cd19 ct19 : Value}
    {t_MOST_OUT_OF : Tok}
    (a1 : PySem.W.nsIn K mainGlobals "is_whole" = some (some (.ref f1)))
    (l1 : K.lookup f1 = some ⟨oc1, od1, .func (PySem.W.fnOf "is_whole" "is_whole" (defArgs s_is_whole) (defBody s_is_whole) (defScope s_is_whole) .none kV1 dc1 pm1 an1 cd1 ct1), sl1⟩) (c1 : PySem.W.codeIn K cd1 "is_whole" = true) (k1 : PySem.W.keepIn K (.ref f1) = true)
    (a2 : PySem.W.nsIn K mainGlobals "is_within" = some (some (.ref f2)))
    (l2 : K.lookup f2 = some ⟨oc2, od2, .func (PySem.W.fnOf "is_within" "is_within" (defArgs s_is_within) (defBody s_is_within) (defScope s_is_within) .none kV2 dc2 pm2 an2 cd2 ct2), sl2⟩) (c2 : PySem.W.codeIn K cd2 "is_within" = true) (k2 : PySem.W.keepIn K (.ref f2) = true)
    (a3 : PySem.W.nsIn K mainGlobals "need_many" = some (some (.ref f3)))
    (l3 : K.lookup f3 = some ⟨oc3, od3, .func (PySem.W.fnOf "need_many" "need_many" (defArgs s_need_many) (defBody s_need_many) (defScope s_need_many) .none kV3 dc3 pm3 an3 cd3 ct3), sl3⟩) (c3 : PySem.W.codeIn K cd3 "need_many" = true) (k3 : PySem.W.keepIn K (.ref f3) = true)
    (a4 : PySem.W.nsIn K mainGlobals "ways" = some (some (.ref f4)))
    (l4 : K.lookup f4 = some ⟨oc4, od4, .func (PySem.W.fnOf "ways" "ways" (defArgs s_ways) (defBody s_ways) (defScope s_ways) .none kV4 dc4 pm4 an4 cd4 ct4), sl4⟩) (c4 : PySem.W.codeIn K cd4 "ways" = true) (k4 : PySem.W.keepIn K (.ref f4) = true)
    (a5 : PySem.W.nsIn K mainGlobals "sets_many" = some (some (.ref f5)))
    (l5 : K.lookup f5 = some ⟨oc5, od5, .func (PySem.W.fnOf "sets_many" "sets_many" (defArgs s_sets_many) (defBody s_sets_many) (defScope s_sets_many) .none kV5 dc5 pm5 an5 cd5 ct5), sl5⟩) (c5 : PySem.W.codeIn K cd5 "sets_many" = true) (k5 : PySem.W.keepIn K (.ref f5) = true)
    (a6 : PySem.W.nsIn K mainGlobals "set_at" = some (some (.ref f6)))
    (l6 : K.lookup f6 = some ⟨oc6, od6, .func (PySem.W.fnOf "set_at" "set_at" (defArgs s_set_at) (defBody s_set_at) (defScope s_set_at) .none kV6 dc6 pm6 an6 cd6 ct6), sl6⟩) (c6 : PySem.W.codeIn K cd6 "set_at" = true) (k6 : PySem.W.keepIn K (.ref f6) = true)
    (a7 : PySem.W.nsIn K mainGlobals "is_set" = some (some (.ref f7)))
    (l7 : K.lookup f7 = some ⟨oc7, od7, .func (PySem.W.fnOf "is_set" "is_set" (defArgs s_is_set) (defBody s_is_set) (defScope s_is_set) .none kV7 dc7 pm7 an7 cd7 ct7), sl7⟩) (c7 : PySem.W.codeIn K cd7 "is_set" = true) (k7 : PySem.W.keepIn K (.ref f7) = true)
    (a8 : PySem.W.nsIn K mainGlobals "need_set" = some (some (.ref f8)))
    (l8 : K.lookup f8 = some ⟨oc8, od8, .func (PySem.W.fnOf "need_set" "need_set" (defArgs s_need_set) (defBody s_need_set) (defScope s_need_set) .none kV8 dc8 pm8 an8 cd8 ct8), sl8⟩) (c8 : PySem.W.codeIn K cd8 "need_set" = true) (k8 : PySem.W.keepIn K (.ref f8) = true)
    (a9 : PySem.W.nsIn K mainGlobals "next_set" = some (some (.ref f9)))
    (l9 : K.lookup f9 = some ⟨oc9, od9, .func (PySem.W.fnOf "next_set" "next_set" (defArgs s_next_set) (defBody s_next_set) (defScope s_next_set) .none kV9 dc9 pm9 an9 cd9 ct9), sl9⟩) (c9 : PySem.W.codeIn K cd9 "next_set" = true) (k9 : PySem.W.keepIn K (.ref f9) = true)
    (a10 : PySem.W.nsIn K mainGlobals "_law_cell" = some (some (.ref f10)))
    (l10 : K.lookup f10 = some ⟨oc10, od10, .func (PySem.W.fnOf "_law_cell" "_law_cell" (defArgs s_cell) (defBody s_cell) (defScope s_cell) .none kV10 dc10 pm10 an10 cd10 ct10), sl10⟩) (c10 : PySem.W.codeIn K cd10 "_law_cell" = true) (k10 : PySem.W.keepIn K (.ref f10) = true)
    (a11 : PySem.W.nsIn K mainGlobals "_law_well" = some (some (.ref f11)))
    (l11 : K.lookup f11 = some ⟨oc11, od11, .func (PySem.W.fnOf "_law_well" "_law_well" (defArgs s_well) (defBody s_well) (defScope s_well) .none kV11 dc11 pm11 an11 cd11 ct11), sl11⟩) (c11 : PySem.W.codeIn K cd11 "_law_well" = true) (k11 : PySem.W.keepIn K (.ref f11) = true)
    (a12 : PySem.W.nsIn K mainGlobals "_law_draw" = some (some (.ref f12)))
    (l12 : K.lookup f12 = some ⟨oc12, od12, .func (PySem.W.fnOf "_law_draw" "_law_draw" (defArgs s_draw) (defBody s_draw) (defScope s_draw) .none kV12 dc12 pm12 an12 cd12 ct12), sl12⟩) (c12 : PySem.W.codeIn K cd12 "_law_draw" = true) (k12 : PySem.W.keepIn K (.ref f12) = true)
    (a13 : PySem.W.nsIn K mainGlobals "_law_many" = some (some (.ref f13)))
    (l13 : K.lookup f13 = some ⟨oc13, od13, .func (PySem.W.fnOf "_law_many" "_law_many" (defArgs s_many) (defBody s_many) (defScope s_many) .none kV13 dc13 pm13 an13 cd13 ct13), sl13⟩) (c13 : PySem.W.codeIn K cd13 "_law_many" = true) (k13 : PySem.W.keepIn K (.ref f13) = true)
    (a14 : PySem.W.nsIn K mainGlobals "_law_told" = some (some (.ref f14)))
    (l14 : K.lookup f14 = some ⟨oc14, od14, .func (PySem.W.fnOf "_law_told" "_law_told" (defArgs s_told) (defBody s_told) (defScope s_told) .none kV14 dc14 pm14 an14 cd14 ct14), sl14⟩) (c14 : PySem.W.codeIn K cd14 "_law_told" = true) (k14 : PySem.W.keepIn K (.ref f14) = true)
    (a15 : PySem.W.nsIn K mainGlobals "_law_set" = some (some (.ref f15)))
    (l15 : K.lookup f15 = some ⟨oc15, od15, .func (PySem.W.fnOf "_law_set" "_law_set" (defArgs s_set) (defBody s_set) (defScope s_set) .none kV15 dc15 pm15 an15 cd15 ct15), sl15⟩) (c15 : PySem.W.codeIn K cd15 "_law_set" = true) (k15 : PySem.W.keepIn K (.ref f15) = true)
    (a16 : PySem.W.nsIn K mainGlobals "_law_next" = some (some (.ref f16)))
    (l16 : K.lookup f16 = some ⟨oc16, od16, .func (PySem.W.fnOf "_law_next" "_law_next" (defArgs s_next) (defBody s_next) (defScope s_next) .none kV16 dc16 pm16 an16 cd16 ct16), sl16⟩) (c16 : PySem.W.codeIn K cd16 "_law_next" = true) (k16 : PySem.W.keepIn K (.ref f16) = true)
    (a17 : PySem.W.nsIn K mainGlobals "_law_next_right" = some (some (.ref f17)))
    (l17 : K.lookup f17 = some ⟨oc17, od17, .func (PySem.W.fnOf "_law_next_right" "_law_next_right" (defArgs s_next_right) (defBody s_next_right) (defScope s_next_right) .none kV17 dc17 pm17 an17 cd17 ct17), sl17⟩) (c17 : PySem.W.codeIn K cd17 "_law_next_right" = true) (k17 : PySem.W.keepIn K (.ref f17) = true)
    (a18 : PySem.W.nsIn K mainGlobals "_law_all" = some (some (.ref f18)))
    (l18 : K.lookup f18 = some ⟨oc18, od18, .func (PySem.W.fnOf "_law_all" "_law_all" (defArgs s_all) (defBody s_all) (defScope s_all) .none kV18 dc18 pm18 an18 cd18 ct18), sl18⟩) (c18 : PySem.W.codeIn K cd18 "_law_all" = true) (k18 : PySem.W.keepIn K (.ref f18) = true)
    (a19 : PySem.W.nsIn K mainGlobals "law" = some (some (.ref f19)))
    (l19 : K.lookup f19 = some ⟨oc19, od19, .func (PySem.W.fnOf "law" "law" (defArgs s_law) (defBody s_law) (defScope s_law) .none kV19 dc19 pm19 an19 cd19 ct19), sl19⟩) (c19 : PySem.W.codeIn K cd19 "law" = true) (k19 : PySem.W.keepIn K (.ref f19) = true)
    (z_len : PySem.W.nsIn K mainGlobals "len" = some none)
    (z_max : PySem.W.nsIn K mainGlobals "max" = some none)
    (z_min : PySem.W.nsIn K mainGlobals "min" = some none)
    (z_all : PySem.W.nsIn K mainGlobals "all" = some none)
    (z_isinstance : PySem.W.nsIn K mainGlobals "isinstance" = some none)
    (z_int : PySem.W.nsIn K mainGlobals "int" = some none)
    (z_bool : PySem.W.nsIn K mainGlobals "bool" = some none)
    (z_list : PySem.W.nsIn K mainGlobals "list" = some none)
    (z_tuple : PySem.W.nsIn K mainGlobals "tuple" = some none)
    (z_range : PySem.W.nsIn K mainGlobals "range" = some none)
    (y_MOST_OUT_OF : PySem.W.nsIn K mainGlobals "MOST_OUT_OF" = some (some (.int (60) t_MOST_OUT_OF))) :
    ∃ fd : FuncData, (∀ (s : Shared) (v : Value), BindsTo s fd ⟨[v], []⟩ [("_law_script", v)]) ∧ ∀ base : Heap, K.In base → base.Ns mainGlobals mg → FnOk l.prog w K mg base CX0 7 fa fd ["_law_script"] (sp_law K) := by
  have e := hfa.symm.trans (PySem.W.mg_of X G a19)
  cases e
  have F1 := fun_mk (st := s_is_whole) l1 c1 k1
  have b1 := F1.binds (ps := ["thing"]) fun _ _ _ _ _ _ us hl => match us, hl with | [_], _ => rfl
  have F2 := fun_mk (st := s_is_within) l2 c2 k2
  have b2 := F2.binds (ps := ["thing", "low", "high"]) fun _ _ _ _ _ _ us hl => match us, hl with | [_, _, _], _ => rfl
  have F3 := fun_mk (st := s_need_many) l3 c3 k3
  have b3 := F3.binds (ps := ["many"]) fun _ _ _ _ _ _ us hl => match us, hl with | [_], _ => rfl
  have F4 := fun_mk (st := s_ways) l4 c4 k4
  have b4 := F4.binds (ps := ["many", "size"]) fun _ _ _ _ _ _ us hl => match us, hl with | [_, _], _ => rfl
  have F5 := fun_mk (st := s_sets_many) l5 c5 k5
  have b5 := F5.binds (ps := ["many", "size"]) fun _ _ _ _ _ _ us hl => match us, hl with | [_, _], _ => rfl
  have F6 := fun_mk (st := s_set_at) l6 c6 k6
  have b6 := F6.binds (ps := ["many", "size", "rank"]) fun _ _ _ _ _ _ us hl => match us, hl with | [_, _, _], _ => rfl
  have F7 := fun_mk (st := s_is_set) l7 c7 k7
  have b7 := F7.binds (ps := ["many", "thing"]) fun _ _ _ _ _ _ us hl => match us, hl with | [_, _], _ => rfl
  have F8 := fun_mk (st := s_need_set) l8 c8 k8
  have b8 := F8.binds (ps := ["many", "told"]) fun _ _ _ _ _ _ us hl => match us, hl with | [_, _], _ => rfl
  have F9 := fun_mk (st := s_next_set) l9 c9 k9
  have b9 := F9.binds (ps := ["many", "told"]) fun _ _ _ _ _ _ us hl => match us, hl with | [_, _], _ => rfl
  have F10 := fun_mk (st := s_cell) l10 c10 k10
  have b10 := F10.binds (ps := ["_law_script", "_law_k"]) fun _ _ _ _ _ _ us hl => match us, hl with | [_, _], _ => rfl
  have F11 := fun_mk (st := s_well) l11 c11 k11
  have b11 := F11.binds (ps := ["_law_cell_here"]) fun _ _ _ _ _ _ us hl => match us, hl with | [_], _ => rfl
  have F12 := fun_mk (st := s_draw) l12 c12 k12
  have b12 := F12.binds (ps := ["_law_well_here", "_law_many_here"]) fun _ _ _ _ _ _ us hl => match us, hl with | [_, _], _ => rfl
  have F13 := fun_mk (st := s_many) l13 c13 k13
  have b13 := F13.binds (ps := ["_law_well_here", "_law_most"]) fun _ _ _ _ _ _ us hl => match us, hl with | [_, _], _ => rfl
  have F14 := fun_mk (st := s_told) l14 c14 k14
  have b14 := F14.binds (ps := ["_law_found", "_law_due"]) fun _ _ _ _ _ _ us hl => match us, hl with | [_, _], _ => rfl
  have F15 := fun_mk (st := s_set) l15 c15 k15
  have b15 := F15.binds (ps := ["_law_well_here", "_law_many_here", "_law_size"]) fun _ _ _ _ _ _ us hl => match us, hl with | [_, _, _], _ => rfl
  have F16 := fun_mk (st := s_next) l16 c16 k16
  have b16 := F16.binds (ps := ["_law_many_here", "_law_one"]) fun _ _ _ _ _ _ us hl => match us, hl with | [_, _], _ => rfl
  have F17 := fun_mk (st := s_next_right) l17 c17 k17
  have b17 := F17.binds (ps := ["_law_many_here", "_law_one", "_law_told_here"]) fun _ _ _ _ _ _ us hl => match us, hl with | [_, _, _], _ => rfl
  have F18 := fun_mk (st := s_all) l18 c18 k18
  have b18 := F18.binds (ps := ["_law_many_here", "_law_size"]) fun _ _ _ _ _ _ us hl => match us, hl with | [_, _], _ => rfl
  have F19 := fun_mk (st := s_law) l19 c19 k19
  have b19 := F19.binds (ps := ["_law_script"]) fun _ _ _ _ _ _ us hl => match us, hl with | [_], _ => rfl
  let T : Txt K mg := { f_is_whole := f1, d_is_whole := _, g_is_whole := PySem.W.mg_of X G a1, k_is_whole := k1, F_is_whole := F1, b_is_whole := b1, f_is_within := f2, d_is_within := _, g_is_within := PySem.W.mg_of X G a2, k_is_within := k2, F_is_within := F2, b_is_within := b2, f_need_many := f3, d_need_many := _, g_need_many := PySem.W.mg_of X G a3, k_need_many := k3, F_need_many := F3, b_need_many := b3, f_ways := f4, d_ways := _, g_ways := PySem.W.mg_of X G a4, k_ways := k4, F_ways := F4, b_ways := b4, f_sets_many := f5, d_sets_many := _, g_sets_many := PySem.W.mg_of X G a5, k_sets_many := k5, F_sets_many := F5, b_sets_many := b5, f_set_at := f6, d_set_at := _, g_set_at := PySem.W.mg_of X G a6, k_set_at := k6, F_set_at := F6, b_set_at := b6, f_is_set := f7, d_is_set := _, g_is_set := PySem.W.mg_of X G a7, k_is_set := k7, F_is_set := F7, b_is_set := b7, f_need_set := f8, d_need_set := _, g_need_set := PySem.W.mg_of X G a8, k_need_set := k8, F_need_set := F8, b_need_set := b8, f_next_set := f9, d_next_set := _, g_next_set := PySem.W.mg_of X G a9, k_next_set := k9, F_next_set := F9, b_next_set := b9, f_cell := f10, d_cell := _, g_cell := PySem.W.mg_of X G a10, k_cell := k10, F_cell := F10, b_cell := b10, f_well := f11, d_well := _, g_well := PySem.W.mg_of X G a11, k_well := k11, F_well := F11, b_well := b11, f_draw := f12, d_draw := _, g_draw := PySem.W.mg_of X G a12, k_draw := k12, F_draw := F12, b_draw := b12, f_many := f13, d_many := _, g_many := PySem.W.mg_of X G a13, k_many := k13, F_many := F13, b_many := b13, f_told := f14, d_told := _, g_told := PySem.W.mg_of X G a14, k_told := k14, F_told := F14, b_told := b14, f_set := f15, d_set := _, g_set := PySem.W.mg_of X G a15, k_set := k15, F_set := F15, b_set := b15, f_next := f16, d_next := _, g_next := PySem.W.mg_of X G a16, k_next := k16, F_next := F16, b_next := b16, f_next_right := f17, d_next_right := _, g_next_right := PySem.W.mg_of X G a17, k_next_right := k17, F_next_right := F17, b_next_right := b17, f_all := f18, d_all := _, g_all := PySem.W.mg_of X G a18, k_all := k18, F_all := F18, b_all := b18, f_law := fa, d_law := _, g_law := PySem.W.mg_of X G a19, k_law := k19, F_law := F19, b_law := b19, n_len := PySem.W.mg_none_of X G z_len, n_max := PySem.W.mg_none_of X G z_max, n_min := PySem.W.mg_none_of X G z_min, n_all := PySem.W.mg_none_of X G z_all, n_isinstance := PySem.W.mg_none_of X G z_isinstance, n_int := PySem.W.mg_none_of X G z_int, n_bool := PySem.W.mg_none_of X G z_bool, n_list := PySem.W.mg_none_of X G z_list, n_tuple := PySem.W.mg_none_of X G z_tuple, n_range := PySem.W.mg_none_of X G z_range, c_MOST_OUT_OF := ⟨_, PySem.W.mg_of X G y_MOST_OUT_OF⟩ }
  exact ⟨PySem.W.fnOf "law" "law" (defArgs s_law) (defBody s_law) (defScope s_law) .none kV19 dc19 pm19 an19 cd19 ct19, fun s v => .of_eq rfl, fun base _ _ => ok_law T⟩
theorem walk {l : PySem.W.OpenLaw} {q : Program} {loose : List Str} {XP : (Str → Option Value) → Heap → Prop} {YP : World → Heap → Prop} {d : DefRec} {K : Params → PySem.W.Frag} (hn : l.most = some 63) (hdf : d.params.defaults = [])
    (hY : ∀ (w : World) (h : Heap), YP w h → (K w.params).In h)
    (F : ∀ (w : World) (mg : Str → Option Value) (fa : Addr) (h : Heap), (K w.params).In h → h.Ns mainGlobals mg → mg d.name = some (.ref fa) →
      ∃ fd : FuncData, (∀ (s : Shared) (u : Value), BindsTo s fd ⟨[u], []⟩ [("_law_script", u)]) ∧ ∀ base : Heap, (K w.params).In base → base.Ns mainGlobals mg → FnOk l.prog w (K w.params) mg base CX0 7 fa fd ["_law_script"] (sp_law (K w.params))) :
    PySem.W.WalkO q loose XP YP l.row.toRowW d [] (fun f vs => PySem.call f vs) :=
  L2.walk_of (n := 63) (k := 7) (x := "_law_script") (CX := fun _ => CX0) (sp := fun w => sp_law (K w.params)) hn (by decide) hdf ⟨rfl, by decide, by decide⟩ hY F (fun _ _ a ns hl _ hS => ⟨a, ns, rfl, hS, hl, fun _ => rfl⟩) fun _ _ _ _ _ z => z
end S

open PySem PySem.W PyProof.Rows in
set_option maxRecDepth 100000 in
set_option maxHeartbeats 0 in
theorem PySem.Challenge.cw_splitseed_k56_next_sets_holds : PySem.Challenge.rw_splitseed_k56_next_sets.Holds := by
  w_on; o_law; k_head; (case hw => w_witness2)
  k_fill
  refine S.walk (l := PySem.Challenge.rw_splitseed_k56_next_sets) rfl rfl (fun w h Y => PySem.W.kIn_of Y) ?F
  case F =>
    intro w mg fa h KX G hmg
    refine' S.all_mk KX G hmg ?a1 ?l1 ?c1 ?k1 ?a2 ?l2 ?c2 ?k2 ?a3 ?l3 ?c3 ?k3 ?a4 ?l4 ?c4 ?k4 ?a5 ?l5 ?c5 ?k5 ?a6 ?l6 ?c6 ?k6 ?a7 ?l7 ?c7 ?k7 ?a8 ?l8 ?c8 ?k8 ?a9 ?l9 ?c9 ?k9 ?a10 ?l10 ?c10 ?k10 ?a11 ?l11 ?c11 ?k11 ?a12 ?l12 ?c12 ?k12 ?a13 ?l13 ?c13 ?k13 ?a14 ?l14 ?c14 ?k14 ?a15 ?l15 ?c15 ?k15 ?a16 ?l16 ?c16 ?k16 ?a17 ?l17 ?c17 ?k17 ?a18 ?l18 ?c18 ?k18 ?a19 ?l19 ?c19 ?k19 ?z_len ?z_max ?z_min ?z_all ?z_isinstance ?z_int ?z_bool ?z_list ?z_tuple ?z_range ?y_MOST_OUT_OF
    (case a1 => k_is)
    (case l1 => k_is)
    (case c1 => k_is)
    (case k1 => k_is)
    (case a2 => k_is)
    (case l2 => k_is)
    (case c2 => k_is)
    (case k2 => k_is)
    (case a3 => k_is)
    (case l3 => k_is)
    (case c3 => k_is)
    (case k3 => k_is)
    (case a4 => k_is)
    (case l4 => k_is)
    (case c4 => k_is)
    (case k4 => k_is)
    (case a5 => k_is)
    (case l5 => k_is)
    (case c5 => k_is)
    (case k5 => k_is)
    (case a6 => k_is)
    (case l6 => k_is)
    (case c6 => k_is)
    (case k6 => k_is)
    (case a7 => k_is)
    (case l7 => k_is)
    (case c7 => k_is)
    (case k7 => k_is)
    (case a8 => k_is)
    (case l8 => k_is)
    (case c8 => k_is)
    (case k8 => k_is)
    (case a9 => k_is)
    (case l9 => k_is)
    (case c9 => k_is)
    (case k9 => k_is)
    (case a10 => k_is)
    (case l10 => k_is)
    (case c10 => k_is)
    (case k10 => k_is)
    (case a11 => k_is)
    (case l11 => k_is)
    (case c11 => k_is)
    (case k11 => k_is)
    (case a12 => k_is)
    (case l12 => k_is)
    (case c12 => k_is)
    (case k12 => k_is)
    (case a13 => k_is)
    (case l13 => k_is)
    (case c13 => k_is)
    (case k13 => k_is)
    (case a14 => k_is)
    (case l14 => k_is)
    (case c14 => k_is)
    (case k14 => k_is)
    (case a15 => k_is)
    (case l15 => k_is)
    (case c15 => k_is)
    (case k15 => k_is)
    (case a16 => k_is)
    (case l16 => k_is)
    (case c16 => k_is)
    (case k16 => k_is)
    (case a17 => k_is)
    (case l17 => k_is)
    (case c17 => k_is)
    (case k17 => k_is)
    (case a18 => k_is)
    (case l18 => k_is)
    (case c18 => k_is)
    (case k18 => k_is)
    (case a19 => k_is)
    (case l19 => k_is)
    (case c19 => k_is)
    (case k19 => k_is)
    (case z_len => k_is)
    (case z_max => k_is)
    (case z_min => k_is)
    (case z_all => k_is)
    (case z_isinstance => k_is)
    (case z_int => k_is)
    (case z_bool => k_is)
    (case z_list => k_is)
    (case z_tuple => k_is)
    (case z_range => k_is)
    (case y_MOST_OUT_OF => k_is)
#print axioms PySem.Challenge.cw_splitseed_k56_next_sets_holds