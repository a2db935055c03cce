import PyProof.Rows.All
import Wide.All
import OpenK.AllK
import Wide.FinOn
import HandS.ForMost
import HandS.Conv
import HandS.RevRange
import HandS.WideBits
import HandS.Wide
import HandS.IsInst
import HandS.TupLe
import HandS.Zip
import HandS.Codes
import PySem.Challenge.RW_splitseed_k51_orders_by_rank
set_option Elab.async false
set_option linter.all false
set_option maxRecDepth 100000
set_option maxHeartbeats 200000
namespace S
open PySem L2
/-! ### my own small words -/
theorem ifT {c : Bool} {A B : Prop} (hc : c = true) (h : A) : if c = true then A else B := by rw [if_pos hc]; exact h
theorem ifF {c : Bool} {A B : Prop} (hc : c = false) (h : B) : if c = true then A else B := by
  rw [hc, if_neg Bool.false_ne_true]; exact h
theorem _root_.L2.Same.g {H H' : Hp} {b : Addr} {o : HO} (s : Same H H') (h : H b = some o) : H' b = some o := s b o h
theorem ne_nn {H : Hp} {a b : Addr} {o : HO} (h' : H b = none) (h : H a = some o) : a ≠ b := ne_of_none h h'
/-- all but what stands at a is kept -/
def Fr (a : Addr) (H H' : Hp) : Prop := ∀ b o, b ≠ a → H b = some o → H' b = some o
theorem Fr.g {a : Addr} {H H' : Hp} {b : Addr} {o : HO} (f : Fr a H H') (n : b ≠ a) (h : H b = some o) : H' b = some o := f b o n h
theorem Fr.refl (a : Addr) (H : Hp) : Fr a H H := fun _ _ _ h => h
theorem Fr.trans {a : Addr} {H H1 H2 : Hp} (f : Fr a H H1) (g : Fr a H1 H2) : Fr a H H2 := fun b o n h => g b o n (f b o n h)
theorem Fr.ofSame {a : Addr} {H H' : Hp} (s : Same H H') : Fr a H H' := fun b o _ h => s b o h
theorem Fr.put {a : Addr} {H : Hp} {o : HO} : Fr a H (upd H a o) := fun b u n h => by rw [upd_ne n]; exact h
theorem _root_.L2.Same.new {H : Hp} {p : Addr} {o : HO} (h : H p = none) : Same H (upd H p o) := fun b u e => by
  rw [upd_ne (ne_of_none e h)]; exact e
/-- an object that H does not know may change -/
theorem _root_.L2.Same.mut {H H' : Hp} {p : Addr} {o : HO} (e : Same H H') (h : H p = none) : Same H (upd H' p o) := fun b u q => by
  rw [upd_ne (ne_of_none q h)]; exact e b u q
theorem Fr.mut {a : Addr} {H H' : Hp} {p : Addr} {o : HO} (e : Fr a H H') (h : H p = none) : Fr a H (upd H' p o) := fun b u n q => by
  rw [upd_ne (ne_of_none q h)]; exact e b u n q
theorem Fr.free {a p : Addr} {H H' : Hp} {o : HO} (f : Fr a H H') (ha : H' a = some o) (h : H' p = none) : H p = none := by
  cases q : H p with
  | none => rfl
  | some u =>
    have n : p ≠ a := fun e => by rw [e, ha] at h; cases h
    rw [f p u n q] at h; cases h
theorem _root_.L2.Same.tup {K : PySem.W.Frag} {H H' : Hp} {a : Addr} {xs : List V} (e : Same H H') : SqT K H a xs → SqT K H' a xs
  | .inl (.inl h) => .inl (.inl (e _ _ h))
  | .inl (.inr ⟨o, h⟩) => .inl (.inr ⟨o, e _ _ h⟩)
  | .inr h => .inr h
abbrev wl (x y z : Int) : HO := .lst [.int x, .int y, .int z]
/-! ### kinds of things -/
inductive Kd where | non | bl | int | str | lst | tup | dct
  deriving DecidableEq
def Kd.nm : Kd → String
  | .non => "NoneType" | .bl => "bool" | .int => "int" | .str => "str" | .lst => "list" | .tup => "tuple" | .dct => "dict"
def Kn (K : PySem.W.Frag) (H : Hp) (x : V) (k : Kd) : Prop := TyX K H x (.type k.nm)
theorem kb_int (k : Kd) : kitB k.nm "int" = some (decide (k = .int ∨ k = .bl)) := by cases k <;> decide +kernel
theorem kb_bool (k : Kd) : kitB k.nm "bool" = some (decide (k = .bl)) := by cases k <;> decide +kernel
theorem kb_str (k : Kd) : kitB k.nm "str" = some (decide (k = .str)) := by cases k <;> decide +kernel
theorem kb_list (k : Kd) : kitB k.nm "list" = some (decide (k = .lst)) := by cases k <;> decide +kernel
theorem kb_tuple (k : Kd) : kitB k.nm "tuple" = some (decide (k = .tup)) := by cases k <;> decide +kernel
theorem kb_dict (k : Kd) : kitB k.nm "dict" = some (decide (k = .dct)) := by cases k <;> decide +kernel
theorem kn_int {K : PySem.W.Frag} {H : Hp} (i : Int) : Kn K H (.int i) .int := .base (.int i)
theorem kn_bl {K : PySem.W.Frag} {H : Hp} (b : Bool) : Kn K H (.bl b) .bl := .base (.bl b)
theorem kn_non {K : PySem.W.Frag} {H : Hp} : Kn K H .non .non := .base .non
theorem kn_str {K : PySem.W.Frag} {H : Hp} (x : Str) : Kn K H (.str x) .str := .base (.str x)
theorem kn_lst {K : PySem.W.Frag} {H : Hp} {a : Addr} {xs : List V} (e : H a = some (.lst xs)) : Kn K H (.ref a) .lst := .base (.lst e)
theorem kn_tup {K : PySem.W.Frag} {H : Hp} {a : Addr} {xs : List V} (e : H a = some (.tup xs)) : Kn K H (.ref a) .tup := .base (.tup e)
theorem kn_dK {K : PySem.W.Frag} {H : Hp} {a : Addr} {xs : List (Key × V)} (e : H a = some (.dK xs)) : Kn K H (.ref a) .dct := .base (.dK e)
def isI : V → Bool | .int _ => true | _ => false
def isB : V → Bool | .bl _ => true | _ => false
def isS : V → Bool | .str _ => true | _ => false
theorem Kn.isI {K : PySem.W.Frag} {H : Hp} {x : V} {k : Kd} (h : Kn K H x k) : S.isI x = decide (k = .int) := by
  unfold Kn at h
  generalize e : Value.type k.nm = u at h
  cases h with
  | base b => cases b <;> (cases k <;> first | rfl | (exfalso; revert e; simp [Kd.nm]))
  | _ => cases k <;> first | rfl | (exfalso; revert e; simp [Kd.nm])
theorem Kn.isB {K : PySem.W.Frag} {H : Hp} {x : V} {k : Kd} (h : Kn K H x k) : S.isB x = decide (k = .bl) := by
  unfold Kn at h
  generalize e : Value.type k.nm = u at h
  cases h with
  | base b => cases b <;> (cases k <;> first | rfl | (exfalso; revert e; simp [Kd.nm]))
  | _ => cases k <;> first | rfl | (exfalso; revert e; simp [Kd.nm])
theorem Kn.isS {K : PySem.W.Frag} {H : Hp} {x : V} {k : Kd} (h : Kn K H x k) : S.isS x = decide (k = .str) := by
  unfold Kn at h
  generalize e : Value.type k.nm = u at h
  cases h with
  | base b => cases b <;> (cases k <;> first | rfl | (exfalso; revert e; simp [Kd.nm]))
  | _ => cases k <;> first | rfl | (exfalso; revert e; simp [Kd.nm])
def wb (x : V) (lo hi : Int) : Bool := match x with | .int i => decide (lo ≤ i) && decide (i ≤ hi) | _ => false
/-! ### a list or a tuple -/
def sq (b : Bool) (xs : List V) : HO := if b then .tup xs else .lst xs
def Itb (b : Bool) (K : PySem.W.Frag) (a : Addr) : It := if b then Itt K a else Itl K a
def iSeq (K : PySem.W.Frag) (tl : TE) : TI := fun σ H R => tl σ H fun x H1 => ∃ (a : Addr) (b : Bool) (xs : List V), x = .ref a ∧ H1 a = some (sq b xs) ∧ R (Itb b K a) H1
theorem pi_seq {X : Cx} {tg l : Expr} {tl : TE} (he : PE X l tl) : PI X tg l (iSeq X.K tl) := by
  constructor
  intro ps st σ H R inv h
  refine thn (he.run ps st σ H _ inv h) ?_
  rintro v st1 ⟨x, H1, inv1, rel, a, b, xs, rfl, hq, q⟩
  cases rel
  cases b with
  | false =>
    obtain ⟨its, _, li, _⟩ := inv1.list (SqL.of (K := X.K) hq)
    exact wpAny_pyIter_list li.isList (pi_one (tk := st1.toks) inv1 _ (turn_list a _) ⟨_, Heap.get?_push_size _ rfl, rfl, rfl⟩ q)
  | true =>
    obtain ⟨its, _, tu, _⟩ := inv1.tuple (SqT.of (K := X.K) hq)
    have tu : st1.heap.IsTuple a its.toArray := tu
    exact wpAny_pyIter_tuple tu (pi_one (tk := st1.toks) inv1 _ (turn_tuple a _) ⟨_, Heap.get?_push_size _ rfl, rfl, rfl⟩ q)
theorem for_sq {K : PySem.W.Frag} {a : Addr} {b : Bool} {xs : List V} {g : TG} {tb : TS} {D : Ends} {σ : L2.St} {H : Hp} (Pv : Nat → L2.St → Hp → Prop) (h0 : Pv 0 σ H) (hl : ∀ i σ H, i ≤ xs.length → Pv i σ H → H a = some (sq b xs))
    (turn : ∀ i x σ H, xs[i]? = some x → Pv i σ H → g x σ H fun σ2 H2 => tb ⟨Pv (i + 1), D.rt, D.nx, Pv (i + 1)⟩ σ2 H2) (fin : ∀ σ H, Pv xs.length σ H → D.nx σ H) :
    tFor (fun _ H R => R (Itb b K a) H) g tb D σ H := by
  cases b with
  | false => exact for_list (K := K) (a := a) (xs := xs) Pv h0 (fun i σ H hi p => SqL.of (hl i σ H hi p)) turn fin
  | true => exact for_tup (K := K) (a := a) (xs := xs) Pv h0 (fun i σ H hi p => SqT.of (hl i σ H hi p)) turn fin
theorem take_more {α : Type} {l : List α} {i : Nat} {x : α} (h : l[i]? = some x) : l.take (i + 1) = l.take i ++ [x] := by
  rw [List.take_add_one, h]; rfl
/-- a comprehension's turns, from the new list at D on -/
def LcOk (J : It) (g : TG) (tt : TT) (te : TE) (vs : List Nat) (σ : L2.St) (H1 : Hp) (D : Addr) (Qd : Hp → Prop) : Prop :=
  ∃ W : Nat → Nat → Hp → Prop, (∃ m, W 0 m (upd H1 D (.lst []))) ∧ (∀ (i m : Nat) (h : Hp), W i m h →
    (J.stop i h ∧ Qd h) ∨ (J.go i h ∧ ∃ Nx : Hp → Prop, (∀ h', Nx h' → ∃ m', m' < m ∧ W (i + 1) m' h') ∧
      (∀ x h', J.yld i h x h' → g x (wipe σ vs) h' (fun s2 h2 => wipe s2 vs = wipe σ vs ∧
        tt s2 h2 (fun k h3 => if k = true then te s2 h3 (fun y h4 =>
          ∃ acc, h4 D = some (.lst acc) ∧ acc.length < sizeLine ∧ Nx (upd h4 D (.lst (acc ++ [y])))) else Nx h3)))))
/-- a comprehension over a list or a tuple whose element and test make new things alone -/
theorem lcP {α : Type} {K : PySem.W.Frag} {a : Addr} {b : Bool} {e : α → V} {as : List α} {j : Nat} {tt : TT} {te : TE} {vs : List Nat} {σ : L2.St} {H1 : Hp} {Qd : Addr → Hp → Prop} (t : α → Bool) (f : α → V)
    (hsrc : H1 a = some (sq b (as.map e))) (hlen : as.length ≤ 1000000) (hw : ∀ x, wipe ((wipe σ vs).set j (some x)) vs = wipe σ vs)
    (hs : ∀ (x : α) (H' : Hp), x ∈ as → Same H1 H' → ∀ R : Bool → Hp → Prop, (∀ H2, Same H' H2 → R (t x) H2) → tt ((wipe σ vs).set j (some (e x))) H' R)
    (he : ∀ (x : α) (H' : Hp), x ∈ as → t x = true → Same H1 H' → ∀ R : VK, (∀ H2, Same H' H2 → R (f x) H2) → te ((wipe σ vs).set j (some (e x))) H' R)
    (fin : ∀ D H', H1 D = none → Same H1 H' → H' D = some (.lst ((as.filter t).map f)) → Qd D H') :
    ∀ D, H1 D = none → LcOk (Itb b K a) (gName j) tt te vs σ H1 D (Qd D) := by
  intro D hD
  have key : ∀ i y H, (as.map e)[i]? = some y → (Same H1 H ∧ H D = some (.lst (((as.take i).filter t).map f))) → gName j y (wipe σ vs) H fun σ2 H2 => wipe σ2 vs = wipe σ vs ∧ tt σ2 H2 fun k H3 =>
      if k = true then te σ2 H3 fun z H4 => ∃ acc, H4 D = some (.lst acc) ∧ acc.length < sizeLine ∧ (Same H1 (upd H4 D (.lst (acc ++ [z]))) ∧ upd H4 D (.lst (acc ++ [z])) D = some (.lst (((as.take (i + 1)).filter t).map f))) else (Same H1 H3 ∧ H3 D = some (.lst (((as.take (i + 1)).filter t).map f))) := by
    intro i y H hy p
    obtain ⟨x, hx, rfl⟩ : ∃ x, as[i]? = some x ∧ y = e x := by
      rw [List.getElem?_map] at hy
      cases q : as[i]? with
      | none => rw [q] at hy; cases hy
      | some x => rw [q] at hy; exact ⟨x, rfl, (Option.some.inj hy).symm⟩
    have hm : x ∈ as := List.mem_of_getElem? hx
    have e := take_more hx
    refine ⟨hw _, hs x H hm p.1 _ fun H2 s2 => ?_⟩
    refine ite2 (fun c => ?y) (fun c => ?n)
    case y =>
      refine he x H2 hm c (p.1.trans s2) _ fun H3 s3 => ?_
      refine ⟨_, s3 _ _ (s2 _ _ p.2), ?_, Same.mut ((p.1.trans s2).trans s3) hD, ?_⟩
      · have h1 := List.length_filter_le t (as.take i)
        have h2 : (as.take i).length ≤ as.length := by rw [List.length_take]; omega
        rw [List.length_map]
        exact Nat.lt_of_le_of_lt (Nat.le_trans h1 (Nat.le_trans h2 hlen)) (by decide)
      · rw [upd_same, e, List.filter_append, List.map_append]
        simp [List.filter_cons, c]
    case n =>
      refine ⟨p.1.trans s2, ?_⟩
      rw [s2 _ _ p.2, e, List.filter_append, List.map_append]
      simp [List.filter_cons, c]
  have done : ∀ H, (Same H1 H ∧ H D = some (.lst (((as.take (as.map e).length).filter t).map f))) → Qd D H := by
    intro H p
    have h := p.2
    rw [List.length_map, List.take_length] at h
    exact fin D H hD p.1 h
  cases b with
  | false => exact lc_list (K := K) (a := a) (xs := as.map e) (fun i H => Same H1 H ∧ H D = some (.lst (((as.take i).filter t).map f))) ⟨Same.new hD, upd_same⟩ (fun i H _ p => SqL.of (p.1 _ _ hsrc)) key done
  | true => exact lc_tup (K := K) (a := a) (xs := as.map e) (fun i H => Same H1 H ∧ H D = some (.lst (((as.take i).filter t).map f))) ⟨Same.new hD, upd_same⟩ (fun i H _ p => SqT.of (p.1 _ _ hsrc)) key done
/-- the same over a range -/
theorem lcR {lo : Int} {n : Nat} {j : Nat} {tt : TT} {te : TE} {vs : List Nat} {σ : L2.St} {H1 : Hp} {Qd : Addr → Hp → Prop} (t : Nat → Bool) (f : Nat → V)
    (hlen : n ≤ 1000000) (hw : ∀ x, wipe ((wipe σ vs).set j (some x)) vs = wipe σ vs)
    (hs : ∀ (x : Nat) (H' : Hp), x < n → Same H1 H' → ∀ R : Bool → Hp → Prop, (∀ H2, Same H' H2 → R (t x) H2) → tt ((wipe σ vs).set j (some (.int (lo + x)))) H' R)
    (he : ∀ (x : Nat) (H' : Hp), x < n → t x = true → Same H1 H' → ∀ R : VK, (∀ H2, Same H' H2 → R (f x) H2) → te ((wipe σ vs).set j (some (.int (lo + x)))) H' R)
    (fin : ∀ D H', H1 D = none → Same H1 H' → H' D = some (.lst (((List.range n).filter t).map f)) → Qd D H') :
    ∀ D, H1 D = none → LcOk (Itr lo n) (gName j) tt te vs σ H1 D (Qd D) := by
  intro D hD
  refine lc_range (lo := lo) (n := n) (fun i H => Same H1 H ∧ H D = some (.lst (((List.range i).filter t).map f))) ⟨Same.new hD, upd_same⟩ (fun x H hx p => ?_) (fun H p => fin D H hD p.1 p.2)
  refine ⟨hw _, hs x H hx p.1 _ fun H2 s2 => ?_⟩
  refine ite2 (fun c => ?y) (fun c => ?n)
  case y =>
    refine he x H2 hx c (p.1.trans s2) _ fun H3 s3 => ?_
    refine ⟨_, s3 _ _ (s2 _ _ p.2), ?_, Same.mut ((p.1.trans s2).trans s3) hD, ?_⟩
    · have h1 := List.length_filter_le t (List.range x)
      rw [List.length_range] at h1
      rw [List.length_map]
      exact Nat.lt_of_le_of_lt (Nat.le_trans h1 (Nat.le_trans (Nat.le_of_lt hx) hlen)) (by decide)
    · rw [upd_same, List.range_succ, List.filter_append, List.map_append]
      simp [List.filter_cons, c]
  case n =>
    refine ⟨p.1.trans s2, ?_⟩
    rw [s2 _ _ p.2, List.range_succ, List.filter_append, List.map_append]
    simp [List.filter_cons, c]
theorem filter_yes {α : Type} (l : List α) : l.filter (fun _ => true) = l := List.filter_eq_self.mpr fun _ _ => rfl
theorem kb_lt {K : PySem.W.Frag} (k : Kd) : PySem.W.kitAny K (.type k.nm) [.type "list", .type "tuple"] = some (decide (k = .lst ∨ k = .tup)) := by
  refine kitAny_cons (kit_ty (kb_list k)) (fun h => kitAny_cons (b := decide (k = .tup)) (kit_ty (kb_tuple k)) (fun h2 => ?_) (fun h2 => ?_)) (fun h => ?_)
  · have h1 : ¬ k = .lst := of_decide_eq_false h
    have h3 : ¬ k = .tup := of_decide_eq_false h2
    rw [kitAny_nil, decide_eq_false (fun q => q.elim h1 h3)]
  · exact decide_eq_true (.inr (of_decide_eq_true h2))
  · exact decide_eq_true (.inl (of_decide_eq_true h))
/-- sum of a list or a tuple of ints -/
def rSumS (K : PySem.W.Frag) : List V → Hp → VK → Prop := fun vs H Q => ∃ (a : Addr) (b : Bool) (ns : List Int), vs = [V.ref a] ∧ H a = some (sq b (ns.map V.int)) ∧ Q (.int ns.sum) H
theorem cr_sumS {X : Cx} (hc : X.calm = true) : CallR X (.builtin "sum") (rSumS X.K) := by
  intro pins s σ H vs us Q I r h
  obtain ⟨a, b, ns, rfl, hs, q⟩ := h
  cases b with
  | false => exact cr_sum hc pins s σ H _ us Q I r ⟨a, ns, rfl, SqL.of hs, q⟩
  | true =>
    obtain ⟨its, rv, hl, _⟩ := I.tuple (SqT.of (K := X.K) hs)
    rw [Vals.ref1 r]
    have hi := rv.ints
    obtain ⟨xs, e⟩ := hi.allInts.items
    have hn : PySem.numsOf (intItems xs).toList = ns := by rw [← e]; exact hi.numsOf
    rw [PySem.nums_intItems] at hn
    have hl : s.heap.IsTuple a its.toArray := hl
    rw [e] at hl
    refine PySem.W.ktm_sumG (I.ok.hd hc) hl fun h' tk t' hk => ?_
    rw [preSum_eq, List.take_of_length_le (by simp), hn]
    exact ⟨.int _, H, I.kept hk, ⟨_, rfl⟩, q⟩
theorem tC_i {v : V} {σ : L2.St} {H : Hp} {Q : VK} (h : Q v H) : tC v σ H Q := h
theorem tNil_i {σ : L2.St} {H : Hp} {Q : List V → Hp → Prop} (h : Q [] H) : tNil σ H Q := h
theorem tCons_i {ta : TE} {tr : TA} {σ : L2.St} {H : Hp} {Q : List V → Hp → Prop} (h : ta σ H fun x H1 => tr σ H1 fun xs H2 => Q (x :: xs) H2) : tCons ta tr σ H Q := h
theorem sq_or {K : PySem.W.Frag} {H : Hp} {p : Addr} {b : Bool} {xs : List V} (h : H p = some (sq b xs)) : SqL K H p xs ∨ SqT K H p xs := by
  cases b with
  | false => exact .inl (SqL.of h)
  | true => exact .inr (SqT.of h)
theorem ix_sq {K : PySem.W.Frag} {H : Hp} {p : Addr} {b : Bool} {xs : List V} {i : Int} {v : V} {Q : VK} (h : H p = some (sq b xs)) (hi : atI xs i = some v) (q : Q v H) : rIx K (.ref p) (.int i) H Q := by
  cases b with
  | false => exact .inl ⟨p, xs, i, v, rfl, rfl, SqL.of h, hi, q⟩
  | true => exact .inr (.inl ⟨p, xs, i, v, rfl, rfl, SqT.of h, hi, q⟩)
theorem kn_sq {K : PySem.W.Frag} {H : Hp} {p : Addr} {b : Bool} {xs : List V} (h : H p = some (sq b xs)) : Kn K H (.ref p) (if b then .tup else .lst) := by
  cases b with
  | false => exact kn_lst h
  | true => exact kn_tup h
/-- a slice of a list or a tuple: a new one, or the tuple itself -/
def rSlS (K : PySem.W.Frag) : V → Option Int → Option Int → Hp → VK → Prop := fun x lo hi H Q => rSlL K x lo hi H Q ∨ rSlT K x lo hi H Q
theorem sl_sq {X : Cx} : SlR X (rSlS X.K) := SlR.or sl_list sl_tup
def rLenS (K : PySem.W.Frag) : List V → Hp → VK → Prop := fun xs H Q => ∃ p ys, xs = [.ref p] ∧ (SqL K H p ys ∨ SqT K H p ys) ∧ Q (.int ys.length) H
def rListOf (K : PySem.W.Frag) : List V → Hp → VK → Prop := fun xs H Q => ∃ p ys, xs = [.ref p] ∧ (SqL K H p ys ∨ SqT K H p ys) ∧ ∀ l, H l = none → Q (.ref l) (upd H l (.lst ys))
def rTupleOf (K : PySem.W.Frag) : List V → Hp → VK → Prop := fun xs H Q => ∃ p ys, xs = [.ref p] ∧ ((SqL K H p ys ∧ ∀ l, H l = none → Q (.ref l) (upd H l (.tup ys))) ∨ (SqT K H p ys ∧ Q (.ref p) H))
theorem _root_.L2.Same.fr {p : Addr} {H H1 H2 : Hp} (s : Same H H1) (n : H p = none) (f : Fr p H1 H2) : Same H H2 := fun b o h => f b o (ne_of_none h n) (s b o h)
theorem _root_.L2.Same.mk {H H1 : Hp} {p : Addr} {o : HO} (s : Same H H1) (n : H1 p = none) : Same H (upd H1 p o) := s.mut (s.free n)
theorem Fr.mk {a : Addr} {H H1 : Hp} {p : Addr} {o u : HO} (s : Fr a H H1) (ha : H1 a = some u) (n : H1 p = none) : Fr a H (upd H1 p o) := s.mut (s.free ha n)
theorem Fr.same {a : Addr} {H H1 H2 : Hp} (f : Fr a H H1) (s : Same H1 H2) : Fr a H H2 := fun b o n h => s b o (f b o n h)
/-- sums of beginnings -/
def SS (ns : List Int) (i : Nat) : Int := (ns.take i).sum
theorem SS_zero (ns : List Int) : SS ns 0 = 0 := rfl
theorem SS_succ {ns : List Int} {i : Nat} {z : Int} (h : ns[i]? = some z) : SS ns (i + 1) = SS ns i + z := sum_take h
theorem SS_all (ns : List Int) : SS ns ns.length = ns.sum := by unfold SS; rw [List.take_length]
theorem get_lt {α : Type} {l : List α} {i : Nat} {x : α} (h : l[i]? = some x) : i < l.length := (List.getElem?_eq_some_iff.mp h).1
theorem get_of {α : Type} {l : List α} {i : Nat} (h : i < l.length) : ∃ x, l[i]? = some x ∧ x ∈ l := ⟨l[i], List.getElem?_eq_getElem h, List.getElem_mem h⟩
theorem SS_mono {ns : List Int} (h : ∀ n ∈ ns, 0 ≤ n) : ∀ {i j : Nat}, i ≤ j → SS ns i ≤ SS ns j := by
  intro i j hij
  induction j with
  | zero => have : i = 0 := by omega
            subst this; exact Int.le_refl _
  | succ j ih =>
    by_cases e : i = j + 1
    · subst e; exact Int.le_refl _
    · have h1 := ih (by omega)
      by_cases hj : j < ns.length
      · obtain ⟨z, hz, hm⟩ := get_of hj
        have := h z hm
        rw [SS_succ hz]; omega
      · have e2 : SS ns (j + 1) = SS ns j := by
          unfold SS; rw [List.take_of_length_le (by omega), List.take_of_length_le (by omega)]
        rw [e2]; exact h1
theorem SS_nn {ns : List Int} (h : ∀ n ∈ ns, 0 ≤ n) (i : Nat) : 0 ≤ SS ns i := SS_mono h (Nat.zero_le i)
theorem cut_to {xs : List V} {k : Nat} (h1 : k ≤ xs.length) : cutV xs none (some (k : Int)) = xs.take k := by
  unfold cutV
  rw [HT.sIx_none, HT.sIx_nat, Nat.min_eq_left h1]; rfl
theorem cut_from {xs : List V} {k : Nat} (h1 : k ≤ xs.length) : cutV xs (some (k : Int)) none = xs.drop k := by
  unfold cutV
  rw [HT.sIx_none, HT.sIx_nat, Nat.min_eq_left h1, List.take_of_length_le]
  rw [List.length_drop]; exact Nat.le_refl _
theorem cut_last {xs : List V} (h : 0 < xs.length) : cutV xs none (some (-1)) = xs.dropLast := by
  unfold cutV
  have e : HT.sIx xs.length xs.length (some (-1)) = xs.length - 1 := by
    show (if (-1 : Int) < 0 then ((-1 : Int) + (xs.length : Int)).toNat else min (-1 : Int).toNat xs.length) = xs.length - 1
    rw [if_pos (by decide)]; omega
  rw [HT.sIx_none, e, List.dropLast_eq_take]; rfl
/-- an int at a place that lies in the list -/
theorem at_int {ns : List Int} {i : Int} {j : Nat} {z : Int} (e : i = (j : Int)) (h : ns[j]? = some z) : atI (ns.map V.int) i = some (.int z) :=
  at_of e (by rw [List.getElem?_map, h]; rfl)
theorem at_end {xs : List V} {v : V} (h : xs.getLast? = some v) : atI xs (-1) = some v := by
  obtain ⟨ys, rfl⟩ := List.getLast?_eq_some_iff.mp h
  exact atI_last ys v
/-! ### == of lists and tuples of ints -/
def dI (b : Bool) (ns : List Int) : PyData := if b then .tuple (ns.map PyData.int) else .list (ns.map PyData.int)
theorem dpAll_ints {K : PySem.W.Frag} {H : Hp} : ∀ ns : List Int, DpAll K H (ns.map V.int) (ns.map PyData.int)
  | [] => .nil
  | n :: r => .cons (.int n) (dpAll_ints r)
theorem dp_ints {K : PySem.W.Frag} {H : Hp} {p : Addr} {b : Bool} {ns : List Int} (h : H p = some (sq b (ns.map V.int))) : Dp K H (.ref p) (dI b ns) := by
  cases b with
  | false => exact .lst (SqL.of h) (dpAll_ints ns)
  | true => exact .tup (SqT.of h) (dpAll_ints ns)
theorem lay_ints : ∀ ns : List Int, PyData.canLayAll0 (ns.map PyData.int) = true
  | [] => rfl
  | n :: r => by
    show (PyData.canLay0 (.int n) && PyData.canLayAll0 (r.map PyData.int)) = true
    rw [lay_ints r]; rfl
theorem dep_ints : ∀ ns : List Int, PyData.depthAll (ns.map PyData.int) = 0
  | [] => rfl
  | n :: r => by
    show max (PyData.depth (.int n)) (PyData.depthAll (r.map PyData.int)) = 0
    rw [dep_ints r]; rfl
theorem sh_ints (b : Bool) (ns : List Int) : SeqAt.shaped (dI b ns) = true := by
  unfold SeqAt.shaped
  cases b with
  | false =>
    show (PyData.canLayAll0 (ns.map PyData.int) && decide (PyData.depthAll (ns.map PyData.int) + 1 ≤ 64)) = true
    rw [lay_ints, dep_ints]; rfl
  | true =>
    show (PyData.canLayAll0 (ns.map PyData.int) && decide (PyData.depthAll (ns.map PyData.int) + 1 ≤ 64)) = true
    rw [lay_ints, dep_ints]; rfl
theorem eqvAll_ints : ∀ ns ms : List Int, PyData.eqvAll (ns.map PyData.int) (ms.map PyData.int) = decide (ns = ms)
  | [], [] => rfl
  | [], _ :: _ => rfl
  | _ :: _, [] => rfl
  | n :: r, m :: t => by
    show ((n == m) && PyData.eqvAll (r.map PyData.int) (t.map PyData.int)) = _
    rw [eqvAll_ints r t]
    by_cases h1 : n = m
    · by_cases h2 : r = t
      · subst h1 h2; simp
      · simp [h1, h2]
    · simp [h1]
theorem eqv_ints (b c : Bool) (ns ms : List Int) : PyData.eqv (dI b ns) (dI c ms) = (decide (b = c) && decide (ns = ms)) := by
  cases b <;> cases c
  · exact (eqvAll_ints ns ms).trans (by simp)
  · rfl
  · rfl
  · exact (eqvAll_ints ns ms).trans (by simp)
theorem eqI {K : PySem.W.Frag} {H : Hp} {p q : Addr} {b c : Bool} {ns ms : List Int} {Q : VK} (hp : H p = some (sq b (ns.map V.int))) (hq : H q = some (sq c (ms.map V.int))) (k : Q (.bl (decide (b = c) && decide (ns = ms))) H) : rEqD K (.ref p) (.ref q) H Q :=
  ⟨_, _, dp_ints hp, dp_ints hq, sh_ints _ _, sh_ints _ _, by rw [eqv_ints]; exact k⟩
theorem neI {K : PySem.W.Frag} {H : Hp} {p q : Addr} {b c : Bool} {ns ms : List Int} {Q : VK} (hp : H p = some (sq b (ns.map V.int))) (hq : H q = some (sq c (ms.map V.int))) (k : Q (.bl (!(decide (b = c) && decide (ns = ms)))) H) : rNeD K (.ref p) (.ref q) H Q :=
  ⟨_, _, dp_ints hp, dp_ints hq, sh_ints _ _, sh_ints _ _, by rw [eqv_ints]; exact k⟩
theorem sqF {xs : List V} : (HO.lst xs) = sq false xs := rfl
theorem sqTr {xs : List V} : (HO.tup xs) = sq true xs := rfl
theorem ix_ok {n : Nat} {i : Int} (h0 : 0 ≤ i) (h1 : i < n) : ixN n i = some i.toNat := by
  unfold ixN; rw [if_pos h0, if_pos h1]
theorem sum_nn : ∀ {l : List Int}, (∀ n ∈ l, 0 ≤ n) → 0 ≤ l.sum
  | [], _ => Int.le_refl 0
  | a :: r, h => by
    have h1 := h a List.mem_cons_self
    have h2 := sum_nn (l := r) fun n hn => h n (List.mem_cons_of_mem _ hn)
    rw [List.sum_cons]; omega
theorem sum_ge : ∀ {l : List Int} {z : Int}, (∀ n ∈ l, 0 ≤ n) → z ∈ l → z ≤ l.sum
  | a :: r, z, h, hz => by
    have h1 := h a List.mem_cons_self
    have h3 : ∀ n ∈ r, 0 ≤ n := fun n hn => h n (List.mem_cons_of_mem _ hn)
    have h2 := sum_nn h3
    rw [List.sum_cons]
    rcases List.mem_cons.mp hz with rfl | hz
    · omega
    · have := sum_ge h3 hz; omega
theorem mem_set_of {α : Type} {l : List α} {j : Nat} {x u : α} (h : u ∈ l.set j x) : u = x ∨ u ∈ l := by
  rcases List.mem_or_eq_of_mem_set h with h | h
  · exact .inr h
  · exact .inl h
theorem ix_head {α : Type} {x : α} {xs : List α} : ixN (x :: xs).length 0 = some 0 := ix_ok (Int.le_refl 0) (by rw [List.length_cons]; omega)
theorem at_head {α : Type} {x : α} {xs : List α} : atI (x :: xs) 0 = some x := by
  unfold atI; rw [ix_head]; rfl
theorem map_true {α : Type} (l : List α) : l.map (fun _ => V.bl true) = (l.map fun _ => true).map V.bl := by rw [List.map_map]; rfl
theorem all_yes {α : Type} (l : List α) : ((l.map fun _ => true).all id) = true := by
  rw [List.all_eq_true]
  intro x hx
  obtain ⟨_, _, rfl⟩ := List.mem_map.mp hx
  rfl
/-! ### what is wished for more, is got of the same -/
def MoE (t : TE) : Prop := ∀ σ H (Q Q' : VK), (∀ v H1, Q v H1 → Q' v H1) → t σ H Q → t σ H Q'
def MoT (t : TT) : Prop := ∀ σ H (Q Q' : Bool → Hp → Prop), (∀ v H1, Q v H1 → Q' v H1) → t σ H Q → t σ H Q'
def MoA (t : TA) : Prop := ∀ σ H (Q Q' : List V → Hp → Prop), (∀ v H1, Q v H1 → Q' v H1) → t σ H Q → t σ H Q'
def MoR (r : R2) : Prop := ∀ x y H (Q Q' : VK), (∀ v H1, Q v H1 → Q' v H1) → r x y H Q → r x y H Q'
def MoC (r : List V → Hp → VK → Prop) : Prop := ∀ xs H (Q Q' : VK), (∀ v H1, Q v H1 → Q' v H1) → r xs H Q → r xs H Q'
theorem mo_var (i : Nat) : MoE (tVar i) := fun _ _ _ _ q ⟨v, e, h⟩ => ⟨v, e, q _ _ h⟩
theorem mo_c (v : V) : MoE (tC v) := fun _ _ _ _ q h => q _ _ h
theorem mo_op {r : R2} {ta tb : TE} (hr : MoR r) (ha : MoE ta) (hb : MoE tb) : MoE (tOp r ta tb) := fun σ H Q Q' q h =>
  ha σ H _ _ (fun x H1 h1 => hb σ H1 _ _ (fun y H2 h2 => hr x y H2 Q Q' q h2) h1) h
theorem mo_cb {r : List V → Hp → VK → Prop} {t : TA} (hr : MoC r) (ha : MoA t) : MoE (tCB r t) := fun σ H Q Q' q h =>
  ha σ H _ _ (fun xs H1 h1 => hr xs H1 Q Q' q h1) h
theorem mo_nil : MoA tNil := fun _ _ _ _ q h => q _ _ h
theorem mo_cons {t : TE} {r : TA} (ht : MoE t) (hr : MoA r) : MoA (tCons t r) := fun σ H Q Q' q h =>
  ht σ H _ _ (fun x H1 h1 => hr σ H1 _ _ (fun xs H2 h2 => q _ _ h2) h1) h
theorem mo_test {t : TE} (ht : MoE t) : MoT (tTest t) := fun σ H Q Q' q h => ht σ H _ _ (fun _ _ ⟨k, e, h1⟩ => ⟨k, e, q _ _ h1⟩) h
theorem mo_b {t : TE} (ht : MoE t) : MoT (tB t) := fun σ H Q Q' q h => ht σ H _ _ (fun _ _ ⟨k, e, h1⟩ => ⟨k, e, q _ _ h1⟩) h
theorem mo_not {t : TT} (ht : MoT t) : MoT (tNot t) := fun σ H Q Q' q h => ht σ H _ _ (fun _ _ h1 => q _ _ h1) h
theorem mo_and {t u : TT} (ht : MoT t) (hu : MoT u) : MoT (tAnd t u) := fun σ H Q Q' q h => ht σ H _ _ (fun k H1 h1 => by
  cases k with
  | true => exact hu σ H1 Q Q' q h1
  | false => exact q _ _ h1) h
theorem mo_or {t u : TT} (ht : MoT t) (hu : MoT u) : MoT (tOr t u) := fun σ H Q Q' q h => ht σ H _ _ (fun k H1 h1 => by
  cases k with
  | true => exact q _ _ h1
  | false => exact hu σ H1 Q Q' q h1) h
theorem mo_rI0 (g : Int → Int → V) : MoR (rI0 g) := fun _ _ _ _ _ q ⟨i, j, e1, e2, h⟩ => ⟨i, j, e1, e2, q _ _ h⟩
theorem mo_rI (C : Int → Int → Prop) (g : Int → Int → V) : MoR (rI C g) := fun _ _ _ _ _ q ⟨i, j, e1, e2, c, h⟩ => ⟨i, j, e1, e2, c, q _ _ h⟩
theorem mo_rEq : MoR rEq := fun _ _ _ _ _ q ⟨e, h⟩ => ⟨e, q _ _ h⟩
theorem mo_rNe : MoR rNe := fun _ _ _ _ _ q ⟨e, h⟩ => ⟨e, q _ _ h⟩
theorem mo_rIxL (K : PySem.W.Frag) : MoR (rIxL K) := fun _ _ _ _ _ q ⟨p, xs, i, v, e1, e2, e3, e4, h⟩ => ⟨p, xs, i, v, e1, e2, e3, e4, q _ _ h⟩
theorem mo_rIxT (K : PySem.W.Frag) : MoR (rIxT K) := fun _ _ _ _ _ q ⟨p, xs, i, v, e1, e2, e3, e4, h⟩ => ⟨p, xs, i, v, e1, e2, e3, e4, q _ _ h⟩
theorem mo_rIx (K : PySem.W.Frag) : MoR (rIx K) := fun _ _ _ _ _ q h => h.elim (fun h => .inl (mo_rIxL K _ _ _ _ _ q h)) (fun h => h.elim (fun h => .inr (.inl (mo_rIxT K _ _ _ _ _ q h)))
  (fun ⟨z, i, c, e1, e2, e3, e4, h⟩ => .inr (.inr ⟨z, i, c, e1, e2, e3, e4, q _ _ h⟩)))
theorem mo_len (K : PySem.W.Frag) : MoC (rLenS K) := fun _ _ _ _ q ⟨p, ys, e1, e2, h⟩ => ⟨p, ys, e1, e2, q _ _ h⟩
theorem mo_neD (K : PySem.W.Frag) : MoR (rNeD K) := fun _ _ _ _ _ q ⟨d, e, a1, a2, a3, a4, h⟩ => ⟨d, e, a1, a2, a3, a4, q _ _ h⟩
theorem mo_eqD (K : PySem.W.Frag) : MoR (rEqD K) := fun _ _ _ _ _ q ⟨d, e, a1, a2, a3, a4, h⟩ => ⟨d, e, a1, a2, a3, a4, q _ _ h⟩
theorem rg_ints {n : Int} : rgV 0 n = ((List.range n.toNat).map (fun i : Nat => (i : Int))).map V.int := by
  unfold rgV
  rw [Int.sub_zero, List.map_map]
  apply List.map_congr_left
  intro i _
  show V.int (0 + (i : Int)) = V.int i
  rw [Int.zero_add]
/-- the numbers below n -/
def below (n : Nat) : List Int := (List.range n).map (fun i : Nat => (i : Int))
theorem below_len (n : Nat) : (below n).length = n := by simp [below]
theorem below_get {n i : Nat} (h : i < n) : (below n)[i]? = some (i : Int) := by
  unfold below; rw [List.getElem?_map, List.getElem?_range h]; rfl
theorem while_mo {c : TT} {tb : TS} {D : Ends} {σ : L2.St} {H : Hp} (Pv : L2.St → Hp → Prop) (μ : L2.St → Hp → Nat) (h0 : Pv σ H)
    (turn : ∀ σ H, Pv σ H → c σ H (fun k H1 => if k = true then tb ⟨fun σ' H' => Pv σ' H' ∧ μ σ' H' < μ σ H, D.rt, D.nx, fun σ' H' => Pv σ' H' ∧ μ σ' H' < μ σ H⟩ σ H1 else D.nx σ H1))
    (mono : MoT c) : tWhile c tb D σ H := while_by Pv μ h0 turn mono
theorem mo_call {sp : Sp} {dvs : List V} {E : XK} {t : TA} (h : ∀ vs H (Q Q' : VK), (∀ v H1, Q v H1 → Q' v H1) → sp vs H Q E → sp vs H Q' E) (ha : MoA t) : MoE (tCall sp dvs E t) := fun σ H Q Q' q hh =>
  ha σ H _ _ (fun xs H1 h1 => h _ H1 Q Q' q h1) hh
theorem seq_ok {n : Nat} {i : Int} (h0 : 0 ≤ i) (h1 : i < n) : seqIndex? i n = some i.toNat := (ixN_seq (ix_ok h0 h1)).1
theorem below_mem {n : Nat} {x : Int} (h : x ∈ below n) : 0 ≤ x ∧ x < n := by
  unfold below at h
  obtain ⟨i, hi, rfl⟩ := List.mem_map.mp h
  have := List.mem_range.mp hi
  omega
theorem below_drop {n m : Nat} {x : Int} (h : x ∈ (below n).drop m) : (m : Int) ≤ x ∧ x < n := by
  obtain ⟨i, hi, e⟩ := List.mem_iff_getElem.mp h
  rw [List.getElem_drop] at e
  have hl : m + i < (below n).length := by
    rw [List.length_drop] at hi
    omega
  have e2 : (below n)[m + i]? = some x := by rw [List.getElem?_eq_getElem hl, e]
  rw [below_get (by rw [below_len] at hl; exact hl)] at e2
  have := Option.some.inj e2
  rw [below_len] at hl
  omega
theorem below_up (n : Nat) : (below n).Pairwise (· < ·) := by
  unfold below
  rw [List.pairwise_map]
  refine List.Pairwise.imp ?_ (List.pairwise_lt_range (n := n))
  intro a b h
  omega
def leT (ns ms : List Int) : Bool := Ob.lexAt (fun j => decide (ns.getD j 0 = ms.getD j 0)) (fun j => decide (ns.getD j 0 ≤ ms.getD j 0)) (decide (ns.length ≤ ms.length)) 0 (min ns.length ms.length)
theorem le_t {K : PySem.W.Frag} {H : Hp} {p q : Addr} {ns ms : List Int} {Q : VK} (hp : H p = some (.tup (ns.map V.int))) (hq : H q = some (.tup (ms.map V.int))) (k : Q (.bl (leT ns ms)) H) : rLeT K (.ref p) (.ref q) H Q :=
  ⟨p, q, ns, ms, rfl, rfl, SqT.of hp, SqT.of hq, k⟩
theorem erase_map {α β : Type} (f : α → β) : ∀ (l : List α) (i : Nat), (l.map f).eraseIdx i = (l.eraseIdx i).map f
  | [], _ => rfl
  | _ :: _, 0 => rfl
  | a :: r, i + 1 => congrArg (f a :: ·) (erase_map f r i)
theorem dp_of {i j : Int} (hj : 0 < j) (h0 : 0 ≤ i) (h : i < 2 ^ 200) : CDivP i j := by
  have hi : i.natAbs < 2 ^ 200 := by omega
  exact divp_ok hj (Nat.le_trans (PyProof.Rows.intBits_le hi) (by omega))
theorem int_item {ns : List Int} {i : Nat} {y : V} (h : (ns.map V.int)[i]? = some y) : ∃ z, ns[i]? = some z ∧ y = V.int z := by
  rw [List.getElem?_map] at h
  cases e : ns[i]? with
  | none => rw [e] at h; cases h
  | some z => rw [e] at h; exact ⟨z, rfl, (Option.some.inj h).symm⟩

def top (i : Nat) : Stmt := PySem.Challenge.pw_splitseed_k51_orders_by_rank.main.body.getD i (.Pass ⟨0, 0, 0, 0⟩)
abbrev s_NoNumber__init_ : Stmt := inClass (top 2) 0
abbrev s_is_whole : Stmt := top 4
abbrev s_is_within : Stmt := top 5
abbrev s_products_to : Stmt := top 8
abbrev s_orders_many : Stmt := top 9
abbrev s_order_at : Stmt := top 10
abbrev s_cell : Stmt := top 12
abbrev s_well : Stmt := top 13
abbrev s_draw : Stmt := top 14
abbrev s_far : Stmt := top 15
abbrev s_whole : Stmt := top 16
abbrev s_rank : Stmt := top 17
abbrev s_total : Stmt := top 18
abbrev s_many : Stmt := top 19
abbrev s_is_at : Stmt := top 20
abbrev s_all : Stmt := top 21
abbrev s_law : Stmt := top 22
theorem sc_is_whole : FnScope ["thing"] ["thing"] (defScope s_is_whole) := ⟨rfl, rfl, rfl, by decide +kernel, rfl, by decide +kernel, by decide +kernel⟩
theorem sc_is_within : FnScope ["thing", "low", "high"] ["thing", "low", "high"] (defScope s_is_within) := ⟨rfl, rfl, rfl, by decide +kernel, rfl, by decide +kernel, by decide +kernel⟩
theorem sc_products_to : FnScope ["many", "found", "k"] ["many"] (defScope s_products_to) := ⟨rfl, rfl, rfl, by decide +kernel, rfl, by decide +kernel, by decide +kernel⟩
theorem sc_orders_many : FnScope ["many"] ["many"] (defScope s_orders_many) := ⟨rfl, rfl, rfl, by decide +kernel, rfl, by decide +kernel, by decide +kernel⟩
theorem sc_order_at : FnScope ["many", "rank", "sizes", "left", "found", "k", "at"] ["many", "rank"] (defScope s_order_at) := ⟨rfl, rfl, rfl, by decide +kernel, rfl, by decide +kernel, by decide +kernel⟩
theorem sc_cell : FnScope ["_law_script", "_law_k"] ["_law_script", "_law_k"] (defScope s_cell) := ⟨rfl, rfl, rfl, by decide +kernel, rfl, by decide +kernel, by decide +kernel⟩
theorem sc_well : FnScope ["_law_cell_here"] ["_law_cell_here"] (defScope s_well) := ⟨rfl, rfl, rfl, by decide +kernel, rfl, by decide +kernel, by decide +kernel⟩
theorem sc_draw : FnScope ["_law_well_here", "_law_many_here", "_law_number"] ["_law_well_here", "_law_many_here"] (defScope s_draw) := ⟨rfl, rfl, rfl, by decide +kernel, rfl, by decide +kernel, by decide +kernel⟩
theorem sc_far : FnScope ["_law_well_here", "_law_many_here", "_law_number"] ["_law_well_here", "_law_many_here"] (defScope s_far) := ⟨rfl, rfl, rfl, by decide +kernel, rfl, by decide +kernel, by decide +kernel⟩
theorem sc_whole : FnScope ["_law_thing"] ["_law_thing"] (defScope s_whole) := ⟨rfl, rfl, rfl, by decide +kernel, rfl, by decide +kernel, by decide +kernel⟩
theorem sc_rank : FnScope ["_law_order", "_law_rank_here", "_law_at", "_law_less", "_law_other"] ["_law_order"] (defScope s_rank) := ⟨rfl, rfl, rfl, by decide +kernel, rfl, by decide +kernel, by decide +kernel⟩
theorem sc_total : FnScope ["_law_many_here", "_law_found", "_law_k"] ["_law_many_here"] (defScope s_total) := ⟨rfl, rfl, rfl, by decide +kernel, rfl, by decide +kernel, by decide +kernel⟩
theorem sc_many : FnScope ["_law_well_here", "_law_most"] ["_law_well_here", "_law_most"] (defScope s_many) := ⟨rfl, rfl, rfl, by decide +kernel, rfl, by decide +kernel, by decide +kernel⟩
theorem sc_is_at : FnScope ["_law_told", "_law_many_here", "_law_rank_here", "_law_place"] ["_law_told", "_law_many_here", "_law_rank_here"] (defScope s_is_at) := ⟨rfl, rfl, rfl, by decide +kernel, rfl, by decide +kernel, by decide +kernel⟩
theorem sc_all : FnScope ["_law_many_here", "_law_ahead", "_law_rank_here", "_law_told"] ["_law_many_here"] (defScope s_all) := ⟨rfl, rfl, rfl, by decide +kernel, rfl, by decide +kernel, by decide +kernel⟩
theorem sc_law : FnScope ["_law_script", "_law_k", "_law_well_here", "_law_many_here", "_law_total_here", "_law_found", "_law_rank_here"] ["_law_script"] (defScope s_law) := ⟨rfl, rfl, rfl, by decide +kernel, rfl, by decide +kernel, by decide +kernel⟩
structure Txt (K : PySem.W.Frag) (mg : Str → Option Value) where
  f_is_whole : Addr
  d_is_whole : FuncData
  g_is_whole : mg "is_whole" = some (.ref f_is_whole)
  k_is_whole : PySem.W.keepIn K (.ref f_is_whole) = true
  F_is_whole : Fun K "is_whole" "is_whole" s_is_whole f_is_whole d_is_whole
  b_is_whole : Binds K d_is_whole ["thing"] []
  f_is_within : Addr
  d_is_within : FuncData
  g_is_within : mg "is_within" = some (.ref f_is_within)
  k_is_within : PySem.W.keepIn K (.ref f_is_within) = true
  F_is_within : Fun K "is_within" "is_within" s_is_within f_is_within d_is_within
  b_is_within : Binds K d_is_within ["thing", "low", "high"] []
  f_products_to : Addr
  d_products_to : FuncData
  g_products_to : mg "products_to" = some (.ref f_products_to)
  k_products_to : PySem.W.keepIn K (.ref f_products_to) = true
  F_products_to : Fun K "products_to" "products_to" s_products_to f_products_to d_products_to
  b_products_to : Binds K d_products_to ["many"] []
  f_orders_many : Addr
  d_orders_many : FuncData
  g_orders_many : mg "orders_many" = some (.ref f_orders_many)
  k_orders_many : PySem.W.keepIn K (.ref f_orders_many) = true
  F_orders_many : Fun K "orders_many" "orders_many" s_orders_many f_orders_many d_orders_many
  b_orders_many : Binds K d_orders_many ["many"] []
  f_order_at : Addr
  d_order_at : FuncData
  g_order_at : mg "order_at" = some (.ref f_order_at)
  k_order_at : PySem.W.keepIn K (.ref f_order_at) = true
  F_order_at : Fun K "order_at" "order_at" s_order_at f_order_at d_order_at
  b_order_at : Binds K d_order_at ["many", "rank"] []
  f_cell : Addr
  d_cell : FuncData
  g_cell : mg "_law_cell" = some (.ref f_cell)
  k_cell : PySem.W.keepIn K (.ref f_cell) = true
  F_cell : Fun K "_law_cell" "_law_cell" s_cell f_cell d_cell
  b_cell : Binds K d_cell ["_law_script", "_law_k"] []
  f_well : Addr
  d_well : FuncData
  g_well : mg "_law_well" = some (.ref f_well)
  k_well : PySem.W.keepIn K (.ref f_well) = true
  F_well : Fun K "_law_well" "_law_well" s_well f_well d_well
  b_well : Binds K d_well ["_law_cell_here"] []
  f_draw : Addr
  d_draw : FuncData
  g_draw : mg "_law_draw" = some (.ref f_draw)
  k_draw : PySem.W.keepIn K (.ref f_draw) = true
  F_draw : Fun K "_law_draw" "_law_draw" s_draw f_draw d_draw
  b_draw : Binds K d_draw ["_law_well_here", "_law_many_here"] []
  f_far : Addr
  d_far : FuncData
  g_far : mg "_law_far" = some (.ref f_far)
  k_far : PySem.W.keepIn K (.ref f_far) = true
  F_far : Fun K "_law_far" "_law_far" s_far f_far d_far
  b_far : Binds K d_far ["_law_well_here", "_law_many_here"] []
  f_whole : Addr
  d_whole : FuncData
  g_whole : mg "_law_whole" = some (.ref f_whole)
  k_whole : PySem.W.keepIn K (.ref f_whole) = true
  F_whole : Fun K "_law_whole" "_law_whole" s_whole f_whole d_whole
  b_whole : Binds K d_whole ["_law_thing"] []
  f_rank : Addr
  d_rank : FuncData
  g_rank : mg "_law_rank" = some (.ref f_rank)
  k_rank : PySem.W.keepIn K (.ref f_rank) = true
  F_rank : Fun K "_law_rank" "_law_rank" s_rank f_rank d_rank
  b_rank : Binds K d_rank ["_law_order"] []
  f_total : Addr
  d_total : FuncData
  g_total : mg "_law_total" = some (.ref f_total)
  k_total : PySem.W.keepIn K (.ref f_total) = true
  F_total : Fun K "_law_total" "_law_total" s_total f_total d_total
  b_total : Binds K d_total ["_law_many_here"] []
  f_many : Addr
  d_many : FuncData
  g_many : mg "_law_many" = some (.ref f_many)
  k_many : PySem.W.keepIn K (.ref f_many) = true
  F_many : Fun K "_law_many" "_law_many" s_many f_many d_many
  b_many : Binds K d_many ["_law_well_here", "_law_most"] []
  f_is_at : Addr
  d_is_at : FuncData
  g_is_at : mg "_law_is_at" = some (.ref f_is_at)
  k_is_at : PySem.W.keepIn K (.ref f_is_at) = true
  F_is_at : Fun K "_law_is_at" "_law_is_at" s_is_at f_is_at d_is_at
  b_is_at : Binds K d_is_at ["_law_told", "_law_many_here", "_law_rank_here"] []
  f_all : Addr
  d_all : FuncData
  g_all : mg "_law_all" = some (.ref f_all)
  k_all : PySem.W.keepIn K (.ref f_all) = true
  F_all : Fun K "_law_all" "_law_all" s_all f_all d_all
  b_all : Binds K d_all ["_law_many_here"] []
  f_law : Addr
  d_law : FuncData
  g_law : mg "law" = some (.ref f_law)
  k_law : PySem.W.keepIn K (.ref f_law) = true
  F_law : Fun K "law" "law" s_law f_law d_law
  b_law : Binds K d_law ["_law_script"] []
  n_len : mg "len" = none
  n_max : mg "max" = none
  n_min : mg "min" = none
  n_all : mg "all" = none
  n_sorted : mg "sorted" = none
  n_divmod : mg "divmod" = none
  n_isinstance : mg "isinstance" = none
  n_int : mg "int" = none
  n_bool : mg "bool" = none
  n_list : mg "list" = none
  n_tuple : mg "tuple" = none
  n_range : mg "range" = none
  n_reversed : mg "reversed" = none
  c_MOST_RANKED : ∃ t, mg "MOST_RANKED" = some (.int (20) t)
local macro_rules | `(tactic| tm_at "hp") => `(tactic| first
  | assumption
  | exact upd_same
  | exact Eq.trans (upd_ne (by tm_at "ne")) (by tm_at "hp")
  | exact Same.g (by assumption) (by tm_at "hp")
  | exact Fr.g (by assumption) (by tm_at "ne") (by tm_at "hp"))
local macro_rules | `(tactic| tm_at "ne") => `(tactic| first
  | assumption
  | exact Ne.symm (by assumption)
  | exact ne_nn (by assumption) (by tm_at "hp")
  | exact Ne.symm (ne_nn (by assumption) (by tm_at "hp")))
/-! one step of a reading that asks for nothing new -/
set_option hygiene false in
local macro_rules | `(tactic| tm_at "g1") => `(tactic| first
  | with_reducible refine tC_i ?_
  | with_reducible refine tCons_i ?_
  | with_reducible refine tNil_i ?_
  | refine ⟨_, rfl, ?_⟩
  | refine ⟨_, _, rfl, rfl, ?_⟩
  | refine ⟨rfl, ?_⟩
  | refine ⟨Or.inl ⟨by omega, by omega⟩, ?_⟩
  | refine ⟨Or.inr ⟨by omega, by omega⟩, ?_⟩
  | refine ⟨(by decide : (0 : Int) < _), ?_⟩
  | refine ⟨(⟨by decide, by decide +kernel⟩ : CDivW _ _), ?_⟩
  | refine ⟨(⟨by decide, by decide, by decide⟩ : CPow _ _), ?_⟩
  | refine ⟨Or.inl ⟨rfl, _, SqL.of (by tm_at "hp")⟩, ?_⟩
  | refine ⟨_, _, _, _, rfl, rfl, SqL.of (by tm_at "hp"), (by tm_at "at"), ?_⟩
  | refine ⟨_, _, _, _, rfl, rfl, (by tm_at "hp"), (by tm_at "ix"), ?_⟩
  | refine ⟨_, _, rfl, Or.inl (SqL.of (by tm_at "hp")), ?_⟩
  | refine ⟨_, _, rfl, Or.inr (SqT.of (by tm_at "hp")), ?_⟩
  | refine ⟨_, _, rfl, sq_or (by tm_at "hp"), ?_⟩
  | refine ⟨_, _, rfl, ?_⟩
  | ((with_reducible show rIx _ (V.ref _) (V.int _) _ _); refine ix_sq (by tm_at "hp") (by tm_at "at") ?_))
local macro_rules | `(tactic| tm_at "at") => `(tactic| first
  | with_reducible exact at_head
  | ((with_reducible show atI (_ :: _) _ = _); rfl)
  | ((with_reducible show atI (List.set _ _ _) _ = _); rfl))
local macro_rules | `(tactic| tm_at "ix") => `(tactic| first
  | with_reducible exact ix_head
  | ((with_reducible show ixN (List.length (_ :: _)) _ = _); rfl)
  | ((with_reducible show ixN (List.length (List.set _ _ _)) _ = _); rfl))
local macro_rules | `(tactic| tm_at "go") => `(tactic| repeat tm_at "g1")
/-! a test that the facts decide -/
local macro_rules | `(tactic| tm_at "bd") => `(tactic| first
  | rfl
  | assumption
  | (exact decide_eq_true (by omega))
  | (exact decide_eq_false (by omega))
  | (simp only [decide_eq_true_eq, decide_eq_false_iff_not, Bool.not_eq_true', Bool.not_eq_false', Bool.not_eq_eq_eq_not, Bool.not_true, Bool.not_false, V.int.injEq, List.length_map, reduceCtorEq]; omega))
local macro_rules | `(tactic| tm_at "if") => `(tactic| first
  | refine ifT (by tm_at "bd") ?_
  | refine ifF (by tm_at "bd") ?_)
local macro_rules | `(tactic| tm_at "mono") => `(tactic| repeat' first
  | exact mo_var _ | exact mo_c _ | exact mo_nil | exact mo_rI0 _ | exact mo_rI _ _ | exact mo_rEq | exact mo_rNe | exact mo_rIxL _ | exact mo_rIxT _ | exact mo_rIx _ | exact mo_len _ | exact mo_neD _ | exact mo_eqD _
  | with_reducible refine mo_op ?_ ?_ ?_ | with_reducible refine mo_cb ?_ ?_ | with_reducible refine mo_cons ?_ ?_ | with_reducible refine mo_test ?_ | with_reducible refine mo_b ?_ | with_reducible refine mo_not ?_ | with_reducible refine mo_and ?_ ?_ | with_reducible refine mo_or ?_ ?_)
section
variable {P : Program} {w : World} {K : PySem.W.Frag} {mg : Str → Option Value} {base : Heap}


def sp_whole (K : PySem.W.Frag) : Sp := fun vs H Q _ => ∃ (x : V) (k : Kd), vs = [x] ∧ Kn K H x k ∧ Q (.bl (isI x)) H
theorem ok_is_whole (T : Txt K mg) : FnOk P w K mg base CX0 1 T.f_is_whole T.d_is_whole ["thing"] (sp_whole K) := by
  refine T.F_is_whole.ok sc_is_whole (fun vs H Q E h => ?_) (fun cdv A outer s H vs Q E hr h => ?_)
  · obtain ⟨x, k, rfl, ty, q⟩ := h; rfl
  obtain ⟨x, k, rfl, ty, q⟩ := h
  refine ⟨_, (pss_one (ps_ret (pe_and (pe_callB call_isi (by rfl) T.n_isinstance (by decide +kernel) (pa_cons (pv 0) (pa_cons (pe_bltn (v := .ty "int") (by rfl) T.n_int (by decide +kernel) rfl) pa_nil))) (pe_one (pe_not (pe_callB call_isi (by rfl) T.n_isinstance (by decide +kernel) (pa_cons (pv 0) (pa_cons (pe_bltn (v := .ty "bool") (by rfl) T.n_bool (by decide +kernel) rfl) pa_nil)))))))), ?_⟩
  refine ⟨_, rfl, _, _, _, _, _, rfl, ClsV.ty _, ty, kit_ty (kb_int k), _, rfl, ?_⟩
  rw [ty.isI] at q
  by_cases h1 : k = .int ∨ k = .bl
  · refine ifT (decide_eq_true h1) ?_
    refine ⟨_, rfl, _, _, _, _, _, rfl, ClsV.ty _, ty, kit_ty (kb_bool k), _, rfl, ?_⟩
    rcases h1 with rfl | rfl <;> exact q
  · refine ifF (decide_eq_false h1) ?_
    have h2 : k ≠ .int := fun e => h1 (.inl e)
    rw [decide_eq_false h2] at q
    exact q
def sp_within (K : PySem.W.Frag) : Sp := fun vs H Q _ => ∃ (x : V) (k : Kd) (lo hi : Int), vs = [x, .int lo, .int hi] ∧ Kn K H x k ∧ Q (.bl (wb x lo hi)) H
theorem ok_is_within (T : Txt K mg) : FnOk P w K mg base CX0 2 T.f_is_within T.d_is_within ["thing", "low", "high"] (sp_within K) := by
  refine T.F_is_within.ok sc_is_within (fun vs H Q E h => ?_) (fun cdv A outer s H vs Q E hr h => ?_)
  · obtain ⟨x, k, lo, hi, rfl, ty, q⟩ := h; rfl
  obtain ⟨x, k, lo, hi, rfl, ty, q⟩ := h
  refine ⟨_, (pss_one (ps_ret (pe_and (pe_call (ok_is_whole T) (hr.mono (by decide)) rfl T.g_is_whole T.k_is_whole T.b_is_whole .nil pass0 (pa_cons (pv 0) pa_nil)) (pe_one (pe_chain op_le op_le (pv 1) (pv 0) (pv 2)))))), ?_⟩
  refine ⟨_, rfl, x, k, rfl, ty, _, rfl, ?_⟩
  cases x with
  | int i =>
    refine ifT rfl ?_
    refine ⟨_, rfl, _, rfl, _, _, rfl, rfl, _, rfl, ?_⟩
    refine ite2 (fun c => ?_) (fun c => ?_)
    · refine ⟨_, rfl, _, _, rfl, rfl, ?_⟩
      have e : wb (.int i) lo hi = decide (i ≤ hi) := by show (decide (lo ≤ i) && decide (i ≤ hi)) = _; rw [c]; rfl
      rw [e] at q; exact q
    · have e : wb (.int i) lo hi = false := by show (decide (lo ≤ i) && decide (i ≤ hi)) = _; rw [Bool.eq_false_iff.mpr c]; rfl
      rw [e] at q; exact q
  | _ => exact ifF rfl q


/-! ### the law's draws -/
def sp_cell (K : PySem.W.Frag) : Sp := fun vs H Q _ => ∃ (a : Addr) (ns : List Int) (k : Int), vs = [.ref a, .int k] ∧ SqL K H a (ns.map V.int) ∧ 0 ≤ k ∧ ∀ c, Q (.int c) H
theorem ok_cell (T : Txt K mg) : FnOk P w K mg base CX0 1 T.f_cell T.d_cell ["_law_script", "_law_k"] (sp_cell K) := by
  refine T.F_cell.ok sc_cell (fun vs H Q E h => ?_) (fun cdv A outer s H vs Q E hr h => ?_)
  · obtain ⟨a, ns, k, rfl, hS, h0, q⟩ := h; rfl
  obtain ⟨a, ns, k, rfl, hS, h0, q⟩ := h
  refine ⟨_, (pss_cons (ps_if (pt_cmpR op_lt (pv 1) (pe_callB call_len_seq (by rfl) T.n_len (by decide +kernel) (pa_cons (pv 0) pa_nil)) (nomark _)) (pss_one (ps_ret (pe_ix ix_list (pv 0) (pv 1) (fun _ _ => rfl)))) pss_nil)
      (pss_one (ps_ret (pe_op op_add (pe_op op_mul pe_int (pv 1)) pe_int)))), ?_⟩
  refine ⟨_, rfl, _, rfl, a, _, rfl, .inl hS, _, _, rfl, rfl, _, rfl, ?_⟩
  refine ite2 (fun c => ?_) (fun c => ?_)
  · rw [List.length_map] at c
    have c := of_decide_eq_true c
    have hk : ns[k.toNat]? = some (ns[k.toNat]'(by omega)) := List.getElem?_eq_getElem _
    refine ⟨_, rfl, _, rfl, a, _, _, _, rfl, rfl, hS, at_of (j := k.toNat) (by omega) (by rw [List.getElem?_map, hk]; rfl), q _⟩
  · tm_at "go"
    exact q _
def sp_well : Sp := fun vs H Q _ => ∃ c : Int, vs = [.int c] ∧ ∀ p x y z, H p = none → Q (.ref p) (upd H p (wl x y z))
theorem ok_well (T : Txt K mg) : FnOk P w K mg base CX0 1 T.f_well T.d_well ["_law_cell_here"] (sp_well) := by
  refine T.F_well.ok sc_well (fun vs H Q E h => ?_) (fun cdv A outer s H vs Q E hr h => ?_)
  · obtain ⟨c, rfl, q⟩ := h; rfl
  obtain ⟨c, rfl, q⟩ := h
  refine ⟨_, (pss_cons (ps_if (pt_cmpR op_ge (pv 0) (pe_op op_pow pe_int pe_int) (nomark _)) (pss_one (ps_ret (pe_lst (pa_cons (pv 0) (pa_cons (pe_op op_mod (pv 0) pe_int) (pa_cons pe_int pa_nil)))))) pss_nil)
      (pss_one (ps_ret (pe_lst (pa_cons pe_int (pa_cons (pe_op op_mod (pv 0) pe_int) (pa_cons pe_int pa_nil))))))), ?_⟩
  tm_at "go"
  refine ite2 (fun c => ?_) (fun c => ?_)
  · tm_at "go"
    exact ⟨Nat.le_of_ble_eq_true rfl, fun p np => q p _ _ _ np⟩
  · tm_at "go"
    exact ⟨Nat.le_of_ble_eq_true rfl, fun p np => q p _ _ _ np⟩
def sp_draw : Sp := fun vs H Q _ => ∃ (a : Addr) (n x y z : Int), vs = [.ref a, .int n] ∧ H a = some (wl x y z) ∧ 0 < n ∧ n < 2 ^ 200 ∧
  ∀ r x' y' z', 0 ≤ r → r < n → Q (.int r) (upd H a (wl x' y' z'))
theorem log_of {n : Int} (h0 : 0 < n) (h : n < 2 ^ 200) : n.natAbs.log2 < 9000 := by
  have h1 : n.natAbs < 2 ^ 200 := by omega
  exact Nat.lt_of_lt_of_le ((Nat.log2_lt (by omega)).mpr h1) (by decide)
theorem ok_draw (T : Txt K mg) : FnOk P w K mg base CX0 1 T.f_draw T.d_draw ["_law_well_here", "_law_many_here"] (sp_draw) := by
  refine T.F_draw.ok sc_draw (fun vs H Q E h => ?_) (fun cdv A outer s H vs Q E hr h => ?_)
  · obtain ⟨a, n, x, y, z, rfl, hw, hn, hl, q⟩ := h; rfl
  obtain ⟨a, n, x, y, z, rfl, hw, hn, hl, q⟩ := h
  refine ⟨_, (pss_cons (ps_if (pt_cmpR op_gt (pe_ix ix_list (pv 0) pe_int (fun _ _ => rfl)) pe_int (nomark _)) (pss_cons (ps_set (i := 2) sc_draw.nd rfl (Or.inl rfl) (pe_op op_mod (pe_ix ix_list (pv 0) pe_int (fun _ _ => rfl)) (pv 1)))
      (pss_cons (ps_asg (pe_op op_fdivW (pe_ix ix_list (pv 0) pe_int (fun _ _ => rfl)) (pv 1)) (pg_sub (pv 0) pe_int set_list))
      (pss_one (ps_ret (pv 2))))) pss_nil)
      (pss_cons (ps_asg (pe_op op_add (pe_ix ix_list (pv 0) pe_int (fun _ _ => rfl)) pe_int) (pg_sub (pv 0) pe_int set_list))
      (pss_cons (ps_set (i := 2) sc_draw.nd rfl (Or.inl rfl) (pe_op op_mod (pe_op op_add (pe_op op_add (pe_op op_mul (pe_ix ix_list (pv 0) pe_int (fun _ _ => rfl)) pe_int) (pe_op op_mul pe_int (pe_ix ix_list (pv 0) pe_int (fun _ _ => rfl)))) pe_int) pe_int))
      (pss_cons (ps_set (i := 2) sc_draw.nd rfl (Or.inl rfl) (pe_op op_mod (pe_op op_add (pe_op op_add (pe_op op_mul (pv 2) (pv 2)) (pe_op op_mul pe_int (pe_ix ix_list (pv 0) pe_int (fun _ _ => rfl)))) pe_int) pe_int))
      (pss_one (ps_ret (pe_op op_mod (pe_op op_mod (pe_op op_mul (pv 2) (pv 2)) pe_int) (pv 1)))))))), ?_⟩
  tm_at "go"
  refine ite2 (fun c => ?_) (fun c => ?_)
  · tm_at "go"
    refine ⟨hn, ?_⟩
    tm_at "go"
    refine ⟨⟨hn, log_of hn hl⟩, ?_⟩
    tm_at "go"
    exact q _ _ _ _ (Int.emod_nonneg _ (by omega)) (Int.emod_lt_of_pos _ hn)
  · tm_at "go"
    exact ⟨hn, q _ _ _ _ (Int.emod_nonneg _ (by omega)) (Int.emod_lt_of_pos _ hn)⟩


def sp_far : Sp := fun vs H Q _ => ∃ (a : Addr) (n x y z : Int), vs = [.ref a, .int n] ∧ H a = some (wl x y z) ∧ 0 < n ∧
  ∀ r x' y' z' H', 0 ≤ r → r < n → H' a = some (wl x' y' z') → Fr a H H' → Q (.int r) H'
theorem ok_far (T : Txt K mg) : FnOk P w K mg base CX0 2 T.f_far T.d_far ["_law_well_here", "_law_many_here"] (sp_far) := by
  refine T.F_far.ok sc_far (fun vs H Q E h => ?_) (fun cdv A outer s H vs Q E hr h => ?_)
  · obtain ⟨a, n, x, y, z, rfl, hw, hn, q⟩ := h; rfl
  obtain ⟨a, n, x, y, z, rfl, hw, hn, q⟩ := h
  refine ⟨_, (pss_cons (ps_set (i := 2) sc_far.nd rfl (Or.inl rfl) (pe_call (ok_draw T) (hr.mono (by decide)) rfl T.g_draw T.k_draw T.b_draw .nil pass0 (pa_cons (pv 0) (pa_cons pe_int pa_nil))))
      (pss_cons (ps_set (i := 2) sc_far.nd rfl (Or.inl rfl) (pe_op op_add (pe_op op_mul (pv 2) pe_int) (pe_call (ok_draw T) (hr.mono (by decide)) rfl T.g_draw T.k_draw T.b_draw .nil pass0 (pa_cons (pv 0) (pa_cons pe_int pa_nil)))))
      (pss_cons (ps_set (i := 2) sc_far.nd rfl (Or.inl rfl) (pe_op op_add (pe_op op_mul (pv 2) pe_int) (pe_call (ok_draw T) (hr.mono (by decide)) rfl T.g_draw T.k_draw T.b_draw .nil pass0 (pa_cons (pv 0) (pa_cons pe_int pa_nil)))))
      (pss_one (ps_ret (pe_op op_mod (pv 2) (pv 1))))))), ?_⟩
  tm_at "go"
  refine ⟨_, _, _, _, _, rfl, (by tm_at "hp"), (by decide), (by decide), fun r1 x1 y1 z1 h1 g1 => ?_⟩
  tm_at "go"
  refine ⟨_, _, _, _, _, rfl, (by tm_at "hp"), (by decide), (by decide), fun r2 x2 y2 z2 h2 g2 => ?_⟩
  tm_at "go"
  refine ⟨_, _, _, _, _, rfl, (by tm_at "hp"), (by decide), (by decide), fun r3 x3 y3 z3 h3 g3 => ?_⟩
  tm_at "go"
  exact ⟨hn, q _ _ _ _ _ (Int.emod_nonneg _ (by omega)) (Int.emod_lt_of_pos _ hn) upd_same ((Fr.put.trans Fr.put).trans Fr.put)⟩

/-! ### sorted(t) of a tuple of ints -/
open PyProof.Rows in
theorem collectT {prog : Program} {w : World} {A : Around} {E : Value → Shared → Prop} {st : Shared} {l : Addr} {vs : List Value} {Q : List Value → Shared → Prop} (ht : st.heap.IsTuple l vs.toArray) (hz : vs.length ≤ sizeLine)
    (fin : Q vs { st with heap := (st.heap.push (seqObj "list" #[] 0)).update st.heap.objs.size (Obj.mapSeq (· ++ vs.toArray)) }) : wpAny (model prog w) A (collect (.ref l)) Q E st := by
  obtain ⟨ob, hob, hcl, n, hda⟩ := id ht
  unfold collect; refine wpAny_bind (wpAny_runValue (codeAny_builtin entry_proto_collect' ?_))
  show wpAny _ _ (do again (.builtin "list.__iadd__" ⟨[← newList [], .ref l], []⟩)) _ _ st
  refine wpAny_bind (wpAny_newList (wpAny_pure ⟨Code.quiet_builtin _ (by decide +kernel), codeAny_builtin entry_list_iadd' ?_⟩))
  show wpAny _ _ (Builtin.List.listExtendWith (.ref st.heap.objs.size) (.ref l) (.ref st.heap.objs.size)) _ _ { st with heap := st.heap.push (seqObj "list" #[] 0) }
  have hob' : (st.heap.push (seqObj "list" #[] 0)).get? l = some ob := Heap.get?_push_of_some _ hob
  unfold Builtin.List.listExtendWith; refine wpAny_bind (wpAny_typeOf (T := "tuple") ⟨ob, hob', hcl⟩ ?_)
  have hty : (Value.type "tuple" == Value.type "tuple") = true := by rfl
  rw [if_pos (by rw [hty]; simp)]; refine wpAny_bind (listItems_at hob' hda ?_)
  refine wpAny_bind (listItems_at (xs := #[]) (n := 0) (Heap.get?_push_size _ rfl) rfl ?_); rw [if_neg (by simp)]
  refine wpAny_bind (listUpdate_at (xs := #[]) (n := 0) (Heap.get?_push_size _ rfl) rfl ?_ (Nat.zero_le _) (by show (#[] ++ vs.toArray).size ≤ sizeLine + 1; simp only [Array.size_append, List.size_toArray, List.length_nil]; omega)); refine wpAny_pure ?_
  refine wpAny_bind (wpAny_load (get?_update_seq (Heap.get?_push_size _ rfl) _) ?_); show wpAny _ _ (pure ((#[] : Array Value) ++ vs.toArray).toList) Q E _
  have e : ((#[] : Array Value) ++ vs.toArray).toList = vs := by simp
  rw [e]; exact wpAny_pure fin
open PyProof.Rows in
theorem sortedT {prog : Program} {w : World} {A : Around} {E : Value → Shared → Prop} {st : Shared} {l : Addr} {vs : List Value} {ns : List Int} {Q : Value → Shared → Prop} (ht : st.heap.IsTuple l vs.toArray) (hi : IntsAre vs ns) (h64 : vs.length < 64)
    (fin : ∀ (out : Array Value) (ms : List Int), IntsAre out.toList ms → ms.Perm ns → ms.Pairwise (· ≤ ·) → Q (.ref (st.heap.objs.size + 1)) { st with heap := sortedAll st.heap vs out }) :
    wpAny (model prog w) A (call (.builtin "sorted") [.ref l]) Q E st := by
  refine Calls.call_function_entry kind_sorted plain_sorted entry_sorted (args_sorted1 _) ?_; unfold Builtin.«sorted»
  refine wpAny_bind (m := checkCount "sorted" 1 1 _) (wpAny_pure ?_); refine wpAny_bind (collectT ht (small64 h64) ?_); refine wpAny_bind (wpAny_newList ?_)
  have hn : ((st.heap.push (seqObj "list" #[] 0)).update st.heap.objs.size (Obj.mapSeq (· ++ vs.toArray))).objs.size = st.heap.objs.size + 1 := (Heap.size_update ..).trans (size_push' ..)
  have hL : (((st.heap.push (seqObj "list" #[] 0)).update st.heap.objs.size (Obj.mapSeq (· ++ vs.toArray))).push (seqObj "list" vs.toArray 0)).get? (st.heap.objs.size + 1) = some (seqObj "list" vs.toArray 0) := by rw [← hn]; exact Heap.get?_push_size _ rfl
  show wpAny _ _ _ _ _ { st with heap := ((st.heap.push (seqObj "list" #[] 0)).update st.heap.objs.size (Obj.mapSeq (· ++ vs.toArray))).push (seqObj "list" vs.toArray 0) }
  rw [hn]; refine wpAny_bind (wpAny_holding (wpAny_call_entry slot_list_sort ⟨_, hL, rfl⟩ entry_list_sort (list_sort_tree hL hi h64 fun out ms b1 b2 b3 => ⟨_, rfl, ?_⟩) (args_list_sort _)))
  exact wpAny_pure ⟨_, rfl, fin out ms b1 b2 b3⟩
def rSortT (K : PySem.W.Frag) : List V → Hp → VK → Prop := fun vs H Q => ∃ (a : Addr) (ns : List Int), vs = [V.ref a] ∧ H a = some (.tup (ns.map V.int)) ∧ ns.length < 64 ∧
  ∀ (ms : List Int) (p : Addr), ms.Perm ns → ms.Pairwise (· ≤ ·) → H p = none → Q (.ref p) (upd H p (.lst (ms.map V.int)))
theorem cr_sortT {X : Cx} : CallR X (.builtin "sorted") (rSortT X.K) := by
  intro pins st σ H vs us Q inv r h
  obtain ⟨a, ns, rfl, ha, h64, q⟩ := h
  obtain ⟨its, rv, tu, _⟩ := inv.tuple (SqT.of (K := X.K) ha)
  rw [Vals.ref1 r]
  have hi := rv.ints
  have tu : st.heap.IsTuple a its.toArray := tu
  refine sortedT tu hi (by rw [hi.length]; exact h64) fun out ms b1 b2 b3 => ?_
  obtain ⟨ep, he⟩ := PyProof.Rows.sortedAll_at st.heap its out
  have hlen : (ms.map V.int).length ≤ sizeLine := by rw [List.length_map, b2.length_eq]; exact small64 h64
  exact ⟨.ref _, upd H (st.heap.objs.size + 1) (.lst (ms.map V.int)), inv.laid (t' := st.toks) (fun _ _ => PyProof.Rows.sortedAll_old) (Nat.le_succ _) ⟨hlen, out.toList, ep, vals_of_ints b1, he⟩, rfl, q ms _ b2 b3 (inv.hok.fresh (Nat.le_succ _))⟩


/-! ### more of the law's draws -/
def sp_lmany : Sp := fun vs H Q _ => ∃ (a : Addr) (n x y z : Int), vs = [.ref a, .int n] ∧ H a = some (wl x y z) ∧ 5 ≤ n ∧ n ≤ 1000 ∧
  ∀ r x' y' z' H', 0 ≤ r → r ≤ n → H' a = some (wl x' y' z') → Fr a H H' → Q (.int r) H'
theorem ok_many (T : Txt K mg) : FnOk P w K mg base CX0 2 T.f_many T.d_many ["_law_well_here", "_law_most"] (sp_lmany) := by
  refine T.F_many.ok sc_many (fun vs H Q E h => ?_) (fun cdv A outer s H vs Q E hr h => ?_)
  · obtain ⟨a, n, x, y, z, rfl, hw, hn, hn2, q⟩ := h; rfl
  obtain ⟨a, n, x, y, z, rfl, hw, hn, hn2, q⟩ := h
  refine ⟨_, (pss_one (ps_ret (pe_ix ix_list (pe_lst (pa_cons (pe_call (ok_draw T) (hr.mono (by decide)) rfl T.g_draw T.k_draw T.b_draw .nil pass0 (pa_cons (pv 0) (pa_cons pe_int pa_nil))) (pa_cons (pe_call (ok_draw T) (hr.mono (by decide)) rfl T.g_draw T.k_draw T.b_draw .nil pass0 (pa_cons (pv 0) (pa_cons (pe_op op_add (pv 1) pe_int) pa_nil))) (pa_cons (pv 1) pa_nil)))) (pe_callB (call_max2 rfl) (by rfl) T.n_max (by decide +kernel) (pa_cons pe_int (pa_cons (pe_op op_sub (pe_call (ok_draw T) (hr.mono (by decide)) rfl T.g_draw T.k_draw T.b_draw .nil pass0 (pa_cons (pv 0) (pa_cons pe_int pa_nil))) pe_int) pa_nil))) (fun _ _ => rfl)))), ?_⟩
  tm_at "go"
  refine ⟨_, _, _, _, _, rfl, hw, (by decide), (by decide), fun r1 x1 y1 z1 h1 g1 => ?_⟩
  tm_at "go"
  refine ⟨_, _, _, _, _, rfl, upd_same, (by omega), (by omega), fun r2 x2 y2 z2 h2 g2 => ?_⟩
  tm_at "go"
  refine ⟨Nat.le_of_ble_eq_true rfl, fun l nl => ?_⟩
  have hal : a ≠ l := ne_nn nl upd_same
  have f := ((Fr.put (a := a) (H := H) (o := wl x1 y1 z1)).trans (Fr.put (o := wl x2 y2 z2))).mk (o := .lst [.int r1, .int r2, .int n]) upd_same nl
  tm_at "go"
  refine ⟨_, _, _, _, _, rfl, (by tm_at "hp"), (by decide), (by decide), fun r3 x3 y3 z3 h3 g3 => ?_⟩
  tm_at "go"
  have cs : (if r3 - 5 > 0 then r3 - 5 else 0) = 0 ∨ (if r3 - 5 > 0 then r3 - 5 else 0) = 1 ∨ (if r3 - 5 > 0 then r3 - 5 else 0) = 2 := by split <;> omega
  generalize (if r3 - 5 > 0 then r3 - 5 else 0) = u at *
  rcases cs with rfl | rfl | rfl
  · exact ⟨l, _, _, _, rfl, rfl, SqL.of (by tm_at "hp"), rfl, q r1 x3 y3 z3 _ h1 (by omega) upd_same (f.trans Fr.put)⟩
  · exact ⟨l, _, _, _, rfl, rfl, SqL.of (by tm_at "hp"), rfl, q r2 x3 y3 z3 _ h2 (by omega) upd_same (f.trans Fr.put)⟩
  · exact ⟨l, _, _, _, rfl, rfl, SqL.of (by tm_at "hp"), rfl, q n x3 y3 z3 _ (by omega) (by omega) upd_same (f.trans Fr.put)⟩


theorem ok_whole (T : Txt K mg) : FnOk P w K mg base CX0 1 T.f_whole T.d_whole ["_law_thing"] (sp_whole K) := by
  refine T.F_whole.ok sc_whole (fun vs H Q E h => ?_) (fun cdv A outer s H vs Q E hr h => ?_)
  · obtain ⟨x, k, rfl, ty, q⟩ := h; rfl
  obtain ⟨x, k, rfl, ty, q⟩ := h
  refine ⟨_, (pss_one (ps_ret (pe_and (pe_callB call_isi (by rfl) T.n_isinstance (by decide +kernel) (pa_cons (pv 0) (pa_cons (pe_bltn (v := .ty "int") (by rfl) T.n_int (by decide +kernel) rfl) pa_nil))) (pe_one (pe_not (pe_callB call_isi (by rfl) T.n_isinstance (by decide +kernel) (pa_cons (pv 0) (pa_cons (pe_bltn (v := .ty "bool") (by rfl) T.n_bool (by decide +kernel) rfl) pa_nil)))))))), ?_⟩
  refine ⟨_, rfl, _, _, _, _, _, rfl, ClsV.ty _, ty, kit_ty (kb_int k), _, rfl, ?_⟩
  rw [ty.isI] at q
  by_cases h1 : k = .int ∨ k = .bl
  · refine ifT (decide_eq_true h1) ?_
    refine ⟨_, rfl, _, _, _, _, _, rfl, ClsV.ty _, ty, kit_ty (kb_bool k), _, rfl, ?_⟩
    rcases h1 with rfl | rfl <;> exact q
  · refine ifF (decide_eq_false h1) ?_
    have h2 : k ≠ .int := fun e => h1 (.inl e)
    rw [decide_eq_false h2] at q
    exact q


end
section
variable {P : Program} {w : World} {K : PySem.W.Frag} {mg : Str → Option Value} {base : Heap}
/-! ### products, orders by rank: the mathematics -/
def fct : Nat → Nat
  | 0 => 1
  | n + 1 => (n + 1) * fct n
theorem fct_pos : ∀ n, 0 < fct n
  | 0 => by decide
  | n + 1 => Nat.mul_pos (Nat.succ_pos n) (fct_pos n)
theorem fct_small : ∀ n, n < 21 → fct n < 2 ^ 62 := by decide
/-- the order of rank r of the things of a rising list -/
def unr : Nat → List Int → Nat → List Int
  | 0, _, _ => []
  | m + 1, left, r => left.getD (r / fct m) 0 :: unr m (left.eraseIdx (r / fct m)) (r % fct m)
/-- the rank of an order -/
def rk : List Int → Nat
  | [] => 0
  | x :: r => (r.filter (fun y => decide (y < x))).length * fct r.length + rk r
theorem erase_split {α : Type} {l : List α} {i : Nat} {x : α} (h : l[i]? = some x) : l = l.take i ++ x :: l.drop (i + 1) ∧ l.eraseIdx i = l.take i ++ l.drop (i + 1) := by
  obtain ⟨hi, e⟩ := List.getElem?_eq_some_iff.mp h
  refine ⟨?_, List.eraseIdx_eq_take_drop_succ ..⟩
  rw [← e, List.getElem_cons_drop, List.take_append_drop]
theorem less_at {l : List Int} (up : l.Pairwise (· < ·)) {i : Nat} {x : Int} (h : l[i]? = some x) : ((l.eraseIdx i).filter (fun y => decide (y < x))).length = i := by
  obtain ⟨e1, e2⟩ := erase_split h
  have hi := get_lt h
  rw [e1] at up
  obtain ⟨_, u2, u3⟩ := List.pairwise_append.mp up
  rw [e2, List.filter_append, List.filter_eq_self.mpr (fun y hy => decide_eq_true (u3 y hy x List.mem_cons_self)), List.filter_eq_nil_iff.mpr, List.append_nil, List.length_take]
  · omega
  · intro y hy
    have := (List.pairwise_cons.mp u2).1 y hy
    simp; omega
theorem unr_perm : ∀ (m : Nat) (l : List Int) (r : Nat), l.length = m → r < fct m → (unr m l r).Perm l
  | 0, l, r, hl, _ => by
    have : l = [] := List.length_eq_zero_iff.mp hl
    subst this; exact .refl _
  | m + 1, l, r, hl, hr => by
    have hq : r / fct m < m + 1 := Nat.div_lt_of_lt_mul (by rw [Nat.mul_comm]; exact hr)
    obtain ⟨x, hx, _⟩ := get_of (l := l) (i := r / fct m) (by omega)
    obtain ⟨e1, e2⟩ := erase_split hx
    have ih := unr_perm m (l.eraseIdx (r / fct m)) (r % fct m) (by rw [List.length_eraseIdx_of_lt (by omega)]; omega) (Nat.mod_lt _ (fct_pos m))
    have hd : l.getD (r / fct m) 0 = x := by rw [List.getD_eq_getElem?_getD, hx]; rfl
    show (l.getD (r / fct m) 0 :: unr m (l.eraseIdx (r / fct m)) (r % fct m)).Perm l
    rw [hd]
    refine (ih.cons x).trans ?_
    rw [e2]
    conv => rhs; rw [e1]
    exact List.perm_middle.symm
theorem rk_unr : ∀ (m : Nat) (l : List Int) (r : Nat), l.Pairwise (· < ·) → l.length = m → r < fct m → rk (unr m l r) = r
  | 0, l, r, _, _, hr => by
    have : r = 0 := by unfold fct at hr; omega
    subst this; rfl
  | m + 1, l, r, up, hl, hr => by
    have hq : r / fct m < m + 1 := Nat.div_lt_of_lt_mul (by rw [Nat.mul_comm]; exact hr)
    obtain ⟨x, hx, _⟩ := get_of (l := l) (i := r / fct m) (by omega)
    have hl2 : (l.eraseIdx (r / fct m)).length = m := by rw [List.length_eraseIdx_of_lt (by omega)]; omega
    have hd : l.getD (r / fct m) 0 = x := by rw [List.getD_eq_getElem?_getD, hx]; rfl
    have p := unr_perm m (l.eraseIdx (r / fct m)) (r % fct m) hl2 (Nat.mod_lt _ (fct_pos m))
    have ih := rk_unr m (l.eraseIdx (r / fct m)) (r % fct m) (up.sublist (List.eraseIdx_sublist _ _)) hl2 (Nat.mod_lt _ (fct_pos m))
    show ((unr m (l.eraseIdx (r / fct m)) (r % fct m)).filter (fun y => decide (y < l.getD (r / fct m) 0))).length * fct (unr m (l.eraseIdx (r / fct m)) (r % fct m)).length + rk (unr m (l.eraseIdx (r / fct m)) (r % fct m)) = r
    rw [ih, hd, (p.filter _).length_eq, less_at up hx, p.length_eq, hl2, Nat.mul_comm]
    exact Nat.div_add_mod r (fct m)
theorem sorted_below {n : Nat} {ms ns : List Int} (p : ms.Perm ns) (q : ns.Perm (below n)) (up : ms.Pairwise (· ≤ ·)) : ms = below n := by
  refine List.Perm.eq_of_pairwise (le := fun a b => a ≤ b) ?_ up ((below_up n).imp (fun h => Int.le_of_lt h)) (p.trans q)
  intro a b _ _ h1 h2
  omega


end
section
variable {P : Program} {w : World} {K : PySem.W.Frag} {mg : Str → Option Value} {base : Heap}

def fcts (n : Nat) : List Int := (List.range (n + 1)).map (fun k => (fct k : Int))
theorem fcts_get {n k : Nat} (h : k ≤ n) : (fcts n)[k]? = some (fct k : Int) := by
  unfold fcts; rw [List.getElem?_map, List.getElem?_range (by omega)]; rfl
def sp_prod : Sp := fun vs H Q _ => ∃ n : Nat, vs = [.int (n : Nat)] ∧ n ≤ 1000 ∧ ∀ H' t, Same H H' → H t = none → H' t = some (.lst ((fcts n).map V.int)) → Q (.ref t) H'
theorem ok_products_to (T : Txt K mg) : FnOk P w K mg base CX0 1 T.f_products_to T.d_products_to ["many"] (sp_prod) := by
  refine T.F_products_to.ok sc_products_to (fun vs H Q E h => ?_) (fun cdv A outer s H vs Q E hr h => ?_)
  · obtain ⟨n, rfl, hn, q⟩ := h; rfl
  obtain ⟨n, rfl, hn, q⟩ := h
  refine ⟨_, (pss_cons (ps_set (i := 1) sc_products_to.nd rfl (Or.inl rfl) (pe_lst (pa_cons pe_int pa_nil)))
      (pss_cons (ps_for PassesOwn.never rfl (pi_range2 (by rfl) T.n_range (pa_cons pe_int (pa_cons (pe_op op_add (pv 0) pe_int) pa_nil))) (pg_name (i := 2) sc_products_to.nd rfl (Or.inl rfl))
      (pss_one (ps_expr (pe_bm PySem.F.plainAttrs_list PySem.F.slot_list_append PySem.F.type_list_append mt_append (pv 1) (pa_cons (pe_op op_mul (pe_ix ix_list (pv 1) (pe_un un_neg pe_int) (fun _ _ => rfl)) (pv 2)) pa_nil)))))
      (pss_one (ps_ret (pv 1))))), ?_⟩
  refine ⟨Nat.le_of_ble_eq_true rfl, fun t nt => ?_⟩
  have s1 := (Same.refl H).mk (o := .lst [.int 1]) nt
  refine ⟨_, rfl, _, _, rfl, rfl, _, _, rfl, ⟨by omega, by omega, by omega, by omega⟩, for_range (lo := 1) (n := ((n : Int) + 1 - 1).toNat) (fun i σ H' => ∃ v, σ = [some (.int n), some (.ref t), v] ∧ Same H H' ∧ H' t = some (.lst ((fcts i).map V.int))) ⟨none, rfl, s1, upd_same⟩ ?_ ?_⟩
  · rintro i σ H' hi ⟨v, rfl, s', ht⟩
    have hlast : ((fcts i).map V.int).getLast? = some (.int (fct i : Int)) := by
      unfold fcts; rw [List.range_succ, List.map_append, List.map_append]; simp
    have hlen : ((fcts i).map V.int).length = i + 1 := by simp [fcts]
    tm_at "go"
    refine ⟨t, _, _, _, rfl, rfl, SqL.of ht, at_end hlast, ?_⟩
    tm_at "go"
    refine ⟨t, _, _, rfl, rfl, ht, by rw [hlen]; exact Nat.lt_of_le_of_lt (show i + 1 ≤ 1001 by omega) (by decide), ?_⟩
    refine ⟨_, rfl, s'.mut nt, ?_⟩
    have e : (fct i : Int) * (1 + (i : Int)) = (fct (i + 1) : Int) := by
      show _ = (((i + 1) * fct i : Nat) : Int)
      rw [Int.natCast_mul, Int.mul_comm]; congr 1; omega
    rw [upd_same]
    show some (HO.lst ((fcts i).map V.int ++ [V.int ((fct i : Int) * (1 + (i : Int)))])) = _
    rw [e]
    unfold fcts
    rw [List.range_succ (n := i + 1), List.map_append, List.map_append]; rfl
  · rintro σ H' ⟨v, rfl, s', ht⟩
    have e : ((n : Int) + 1 - 1).toNat = n := by omega
    rw [e] at ht
    exact ⟨_, rfl, q _ t s' nt ht⟩
def sp_omany (K : PySem.W.Frag) : Sp := fun vs H Q _ => ∃ n : Nat, vs = [.int (n : Nat)] ∧ n ≤ 20 ∧ ∀ H', Same H H' → Q (.int (fct n : Int)) H'
theorem ok_orders_many (T : Txt K mg) : FnOk P w K mg base CX0 3 T.f_orders_many T.d_orders_many ["many"] (sp_omany K) := by
  refine T.F_orders_many.ok sc_orders_many (fun vs H Q E h => ?_) (fun cdv A outer s H vs Q E hr h => ?_)
  · obtain ⟨n, rfl, hn, q⟩ := h; rfl
  obtain ⟨n, rfl, hn, q⟩ := h
  refine ⟨_, (pss_cons (ps_if (pt_not (pt_val (pe_call (ok_is_within T) (hr.mono (by decide)) rfl T.g_is_within T.k_is_within T.b_is_within .nil pass0 (pa_cons (pv 0) (pa_cons pe_int (pa_cons (pe_glob (v := .int (20)) rfl T.c_MOST_RANKED.choose_spec ⟨_, rfl⟩) pa_nil)))))) (pss_one ps_never) pss_nil)
      (pss_one (ps_ret (pe_ix ix_list (pe_call (ok_products_to T) (hr.mono (by decide)) rfl T.g_products_to T.k_products_to T.b_products_to .nil pass0 (pa_cons (pv 0) pa_nil)) (pv 0) (fun _ _ => rfl))))), ?_⟩
  tm_at "go"
  refine ⟨_, _, _, _, rfl, kn_int _, ?_⟩
  tm_at "go"
  refine ifF ?_ ?_
  · show (!(decide (0 ≤ (n : Int)) && decide ((n : Int) ≤ 20))) = false
    rw [decide_eq_true (by omega), decide_eq_true (by omega)]; rfl
  tm_at "go"
  refine ⟨by omega, fun H1 t s1 nt ht => ?_⟩
  tm_at "go"
  exact ⟨t, _, _, _, rfl, rfl, SqL.of ht, at_int (j := n) rfl (fcts_get (Nat.le_refl _)), q _ s1⟩
def sp_oat (K : PySem.W.Frag) : Sp := fun vs H Q _ => ∃ n r : Nat, vs = [.int (n : Nat), .int (r : Nat)] ∧ n ≤ 20 ∧ r < fct n ∧ ∀ H' t, Same H H' → H' t = some (.tup ((unr n (below n) r).map V.int)) → Q (.ref t) H'
theorem ok_order_at (T : Txt K mg) : FnOk P w K mg base CX0 4 T.f_order_at T.d_order_at ["many", "rank"] (sp_oat K) := by
  refine T.F_order_at.ok sc_order_at (fun vs H Q E h => ?_) (fun cdv A outer s H vs Q E hr h => ?_)
  · obtain ⟨n, r, rfl, hn, hrr, q⟩ := h; rfl
  obtain ⟨n, r, rfl, hn, hrr, q⟩ := h
  refine ⟨_, (pss_cons (ps_if (pt_not (pt_val (pe_call (ok_is_within T) (hr.mono (by decide)) rfl T.g_is_within T.k_is_within T.b_is_within .nil pass0 (pa_cons (pv 1) (pa_cons pe_int (pa_cons (pe_op op_sub (pe_call (ok_orders_many T) (hr.mono (by decide)) rfl T.g_orders_many T.k_orders_many T.b_orders_many .nil pass0 (pa_cons (pv 0) pa_nil)) pe_int) pa_nil)))))) (pss_one ps_never) pss_nil)
      (pss_cons (ps_set (i := 2) sc_order_at.nd rfl (Or.inl rfl) (pe_call (ok_products_to T) (hr.mono (by decide)) rfl T.g_products_to T.k_products_to T.b_products_to .nil pass0 (pa_cons (pv 0) pa_nil)))
      (pss_cons (ps_set (i := 3) sc_order_at.nd rfl (Or.inl rfl) (pe_listRg rfl (by rfl) T.n_list (prg_1 (by rfl) T.n_range (pv 0))))
      (pss_cons (ps_set (i := 4) sc_order_at.nd rfl (Or.inl rfl) (pe_lst pa_nil))
      (pss_cons (ps_for PassesOwn.never rfl (pi_revR (by rfl) T.n_reversed (prg_1 (by rfl) T.n_range (pv 0))) (pg_name (i := 5) sc_order_at.nd rfl (Or.inl rfl))
      (pss_cons (ps_asg (pe_callB call_divmodW (by rfl) T.n_divmod (by decide +kernel) (pa_cons (pv 1) (pa_cons (pe_ix ix_list (pv 2) (pv 5) (fun _ _ => rfl)) pa_nil))) (pg_tup (by rfl) (pgs_cons (pg_name (i := 6) sc_order_at.nd rfl (Or.inl rfl)) (pgs_cons (pg_name (i := 1) sc_order_at.nd rfl (Or.inl rfl)) pgs_nil))))
      (pss_one (ps_expr (pe_bm PySem.F.plainAttrs_list PySem.F.slot_list_append PySem.F.type_list_append mt_append (pv 4) (pa_cons (pe_bm PySem.F.plainAttrs_list PySem.F.slot_list_pop PySem.F.type_list_pop mt_popAt (pv 3) (pa_cons (pv 6) pa_nil)) pa_nil))))))
      (pss_one (ps_ret (pe_callTy call_tuple_of (by rfl) T.n_tuple (by decide +kernel) (pa_cons (pv 4) pa_nil))))))))), ?_⟩
  have hf := fct_small n (by omega)
  tm_at "go"
  refine ⟨hn, fun H1 s1 => ?_⟩
  tm_at "go"
  refine ⟨_, _, _, _, rfl, kn_int _, ?_⟩
  tm_at "go"
  refine ifF ?_ ?_
  · show (!(decide (0 ≤ (r : Int)) && decide ((r : Int) ≤ (fct n : Int) - 1))) = false
    rw [decide_eq_true (by omega), decide_eq_true (by omega)]; rfl
  tm_at "go"
  refine ⟨by omega, fun H2 z s2 nz hz => ?_⟩
  tm_at "go"
  refine ⟨⟨by omega, by omega, by omega, by omega, by omega⟩, fun l nl => ?_⟩
  have erg : rgV 0 (n : Int) = (below n).map V.int := rg_ints
  rw [erg]
  have hz2 : (upd H2 l (.lst ((below n).map V.int))) z = some (.lst ((fcts n).map V.int)) := by tm_at "hp"
  have s3 := (s1.trans s2).mk (o := .lst ((below n).map V.int)) nl
  have nl0 := (s1.trans s2).free nl
  tm_at "go"
  refine ⟨Nat.le_of_ble_eq_true rfl, fun f nf => ?_⟩
  have s4 := s3.mk (o := .lst []) nf
  have nf0 := s3.free nf
  have hlf : l ≠ f := ne_nn nf upd_same
  have hzf : z ≠ f := ne_nn nf hz2
  have hzl : z ≠ l := ne_nn nl hz
  tm_at "go"
  refine ⟨by omega, by omega, by omega, by omega, ?_⟩
  have en : ((n : Int) - 0).toNat = n := by omega
  rw [en]
  refine for_rangeC (lo := 0 + (n : Int) - 1) (c := -1) (n := n) (fun i σ H' => ∃ (v v' : Option V) (r' : Nat) (L F : List Int), σ = [some (.int n), some (.int r'), some (.ref z), some (.ref l), some (.ref f), v, v'] ∧ Same H H' ∧ H' z = some (.lst ((fcts n).map V.int)) ∧ H' l = some (.lst (L.map V.int)) ∧ H' f = some (.lst (F.map V.int)) ∧ L.length = n - i ∧ F.length = i ∧ r' < fct (n - i) ∧ unr n (below n) r = F ++ unr (n - i) L r')
    ⟨none, none, r, below n, [], rfl, s4, by tm_at "hp", by tm_at "hp", upd_same, below_len n, rfl, hrr, rfl⟩ ?_ ?_
  · rintro i σ H' hi ⟨v, v', r', L, F, rfl, s', hz', hl', hf', hL, hF, hr', e⟩
    obtain ⟨m, em⟩ : ∃ m, n - i = m + 1 := ⟨n - i - 1, by omega⟩
    have ek : 0 + (n : Int) - 1 + (i : Int) * -1 = (m : Int) := by omega
    rw [em] at hr' e hL
    have hfm := fct_small m (by omega)
    have hfm1 := fct_small (m + 1) (by omega)
    have hpm := fct_pos m
    have hq : r' / fct m < m + 1 := Nat.div_lt_of_lt_mul (by rw [Nat.mul_comm]; exact hr')
    obtain ⟨x, hx, _⟩ := get_of (l := L) (i := r' / fct m) (by omega)
    have hdx : L.getD (r' / fct m) 0 = x := by rw [List.getD_eq_getElem?_getD, hx]; rfl
    rw [ek]
    tm_at "go"
    refine ⟨z, _, _, _, rfl, rfl, SqL.of hz', at_int (j := m) rfl (fcts_get (by omega)), ?_⟩
    refine ⟨_, _, rfl, dp_of (by omega) (by omega) (by omega), fun u nu => ?_⟩
    refine ⟨u, _, rfl, SqT.of upd_same, rfl, _, _, rfl, _, _, rfl, rfl, ?_⟩
    have hlu : (upd H' u (.tup [.int ((r' : Int) / (fct m : Int)), .int ((r' : Int) % (fct m : Int))])) l = some (.lst (L.map V.int)) := by tm_at "hp"
    have hfu : (upd H' u (.tup [.int ((r' : Int) / (fct m : Int)), .int ((r' : Int) % (fct m : Int))])) f = some (.lst (F.map V.int)) := by tm_at "hp"
    have hzu : (upd H' u (.tup [.int ((r' : Int) / (fct m : Int)), .int ((r' : Int) % (fct m : Int))])) z = some (.lst ((fcts n).map V.int)) := by tm_at "hp"
    have e1 : (r' : Int) / (fct m : Int) = ((r' / fct m : Nat) : Int) := rfl
    have e2 : (r' : Int) % (fct m : Int) = ((r' % fct m : Nat) : Int) := rfl
    tm_at "go"
    refine ⟨l, _, _, r' / fct m, .int x, rfl, rfl, hlu, by rw [e1]; exact Int.le_trans (by decide) (Int.natCast_nonneg _), by rw [e1]; exact Int.lt_trans (Int.ofNat_lt.mpr (show r' / fct m < 22 by omega)) (by decide), ?_, by rw [List.getElem?_map, hx]; rfl, ?_⟩
    · rw [e1, seq_ok (Int.natCast_nonneg _) (by rw [List.length_map]; exact Int.ofNat_lt.mpr (by omega))]; rfl
    tm_at "go"
    refine ⟨f, _, _, rfl, rfl, (by tm_at "hp"), ?_, ?_⟩
    · rw [List.length_map, hF]; exact Nat.lt_of_le_of_lt (show i ≤ 20 by omega) (by decide)
    refine ⟨_, _, r' % fct m, L.eraseIdx (r' / fct m), F ++ [x], by rw [e1, e2]; rfl, ((s'.mk nu).mut nl0).mut nf0, by tm_at "hp", ?_, ?_, ?_, ?_, ?_, ?_⟩
    · rw [upd_ne hlf, upd_same, erase_map]
    · rw [upd_same, List.map_append]; rfl
    · rw [List.length_eraseIdx_of_lt (by omega)]; omega
    · rw [List.length_append, hF]; rfl
    · have e3 : n - (i + 1) = m := by omega
      rw [e3]; exact Nat.mod_lt _ hpm
    · have e3 : n - (i + 1) = m := by omega
      rw [e3, e, List.append_assoc]
      show F ++ (L.getD (r' / fct m) 0 :: unr m (L.eraseIdx (r' / fct m)) (r' % fct m)) = _
      rw [hdx]; rfl
  · rintro σ H' ⟨v, v', r', L, F, rfl, s', hz', hl', hf', hL, hF, hr', e⟩
    rw [Nat.sub_self] at e
    have e : unr n (below n) r = F := by rw [e]; exact List.append_nil F
    rw [e] at q
    refine ⟨_, rfl, f, _, rfl, .inl ⟨SqL.of hf', fun t nt => ?_⟩⟩
    exact q _ t (s'.mk nt) upd_same


end
section
variable {P : Program} {w : World} {K : PySem.W.Frag} {mg : Str → Option Value} {base : Heap}

theorem rk_drop {ns : List Int} {i : Nat} {x : Int} (h : ns[i]? = some x) : rk (ns.drop i) = ((ns.drop (i + 1)).filter (fun y => decide (y < x))).length * fct (ns.length - (i + 1)) + rk (ns.drop (i + 1)) := by
  obtain ⟨hi, e⟩ := List.getElem?_eq_some_iff.mp h
  have e2 : ns.drop i = x :: ns.drop (i + 1) := by rw [← e]; exact (List.getElem_cons_drop ..).symm
  rw [e2]
  show _ * fct (ns.drop (i + 1)).length + _ = _
  rw [List.length_drop]
def sp_lrank (K : PySem.W.Frag) : Sp := fun vs H Q _ => ∃ (p : Addr) (ns : List Int), vs = [.ref p] ∧ H p = some (.tup (ns.map V.int)) ∧ ns.length ≤ 1000 ∧ ∀ H', Same H H' → Q (.int (rk ns : Int)) H'
theorem ok_rank (T : Txt K mg) : FnOk P w K mg base CX0 1 T.f_rank T.d_rank ["_law_order"] (sp_lrank K) := by
  refine T.F_rank.ok sc_rank (fun vs H Q E h => ?_) (fun cdv A outer s H vs Q E hr h => ?_)
  · obtain ⟨p, ns, rfl, hp, hl, q⟩ := h; rfl
  obtain ⟨p, ns, rfl, hp, hl, q⟩ := h
  refine ⟨_, (pss_cons (ps_set (i := 1) sc_rank.nd rfl (Or.inl rfl) pe_int)
      (pss_cons (ps_for PassesOwn.never rfl (pi_range1 (by rfl) T.n_range (pa_cons (pe_callB call_len_seq (by rfl) T.n_len (by decide +kernel) (pa_cons (pv 0) pa_nil)) pa_nil)) (pg_name (i := 2) sc_rank.nd rfl (Or.inr rfl))
      (pss_cons (ps_set (i := 3) sc_rank.nd rfl (Or.inl rfl) (pe_callB call_len_seq (by rfl) T.n_len (by decide +kernel) (pa_cons (pe_lc (own := [("_law_other", 4)]) (g := gName 4) rfl sc_rank.nd (pi_tup (pe_slice sl_tup (pv 0) (po_some (pe_op op_add (pv 2) pe_int)) po_none)) (blkOk_by (own := [("_law_other", 4)]) (N := ["_law_order", "_law_rank_here", "_law_at", "_law_less", "_law_other"]) (sc := defScope s_rank) (by decide +kernel)) (fun _ _ _ _ _ => (pg_name (i := 4) sc_rank.nd rfl (Or.inl rfl))) (fun _ _ _ _ _ => (pts_one (pt_cmpR op_lt (pv 4) (pe_ix (show IxR _ (rIxT K) from ix_tup) (pv 0) (pv 2) (fun _ _ => rfl)) (nomark _)))) (fun _ _ _ _ _ => (pv 4))) pa_nil)))
      (pss_one (ps_set (i := 1) sc_rank.nd rfl (Or.inl rfl) (pe_op op_add (pe_op op_mul (pv 1) (pe_op op_sub (pe_callB call_len_seq (by rfl) T.n_len (by decide +kernel) (pa_cons (pv 0) pa_nil)) (pv 2))) (pv 3))))))
      (pss_one (ps_ret (pv 1))))), ?_⟩
  have hlen : (ns.map V.int).length = ns.length := List.length_map ..
  tm_at "go"
  refine ⟨by omega, by rw [hlen]; omega, ?_⟩
  have en : ((((ns.map V.int).length : Nat) : Int)).toNat = ns.length := by rw [hlen]; omega
  rw [en]
  refine for_range (lo := 0) (n := ns.length) (fun i σ H' => ∃ (v v' v'' : Option V) (h : Nat), σ = [some (.ref p), some (.int (h : Int)), v, v', v''] ∧ Same H H' ∧ rk ns = h * fct (ns.length - i) + rk (ns.drop i)) ⟨none, none, none, 0, rfl, Same.refl _, by rw [Nat.zero_mul, Nat.zero_add]; rfl⟩ ?_ ?_
  · rintro i σ H1 hi ⟨v, v', v'', h, rfl, s1, he⟩
    obtain ⟨x, hx, _⟩ := get_of hi
    have hp1 := s1.g hp
    tm_at "go"
    have e0 : (0 : Int) + (i : Int) + 1 = ((i + 1 : Nat) : Int) := by omega
    refine ⟨p, _, rfl, SqT.of hp1, ?_, fun t nt => ?_⟩
    · rintro ⟨h1, _⟩
      rw [e0, HT.sIx_nat, hlen] at h1
      omega
    have ec : cutV (ns.map V.int) (some ((0 : Int) + (i : Int) + 1)) none = (ns.drop (i + 1)).map V.int := by
      rw [e0, cut_from (by rw [hlen]; omega), List.map_drop]
    rw [ec]
    have s2 := s1.mk (o := .tup ((ns.drop (i + 1)).map V.int)) nt
    have s12 := (Same.refl H1).mk (o := .tup ((ns.drop (i + 1)).map V.int)) nt
    refine ⟨t, rfl, ⟨_, SqT.of upd_same⟩, ?_⟩
    refine lcP (b := true) (e := V.int) (as := ns.drop (i + 1)) (fun y => decide (y < x)) (fun y => .int y) upd_same (by rw [List.length_drop]; omega) (fun _ => rfl) (fun y H' _ s' R k => ?_) (fun y H' _ _ s' R k => ?_) (fun D H4 nD s4 hD => ?_)
    · tm_at "go"
      refine ⟨p, _, _, _, rfl, rfl, SqT.of (s'.g (s12.g hp1)), at_int (j := i) (by omega) hx, ?_⟩
      tm_at "go"
      exact k _ (Same.refl _)
    · tm_at "go"
      exact k _ (Same.refl _)
    have s24 := s2.trans s4
    have hp4 := s24.g hp
    tm_at "go"
    refine ⟨some (.int (0 + (i : Int))), some (.int ((((ns.drop (i + 1)).filter (fun y => decide (y < x))).map (fun y => V.int y)).length : Nat)), v'', h * (ns.length - i) + ((ns.drop (i + 1)).filter (fun y => decide (y < x))).length, ?_, s24, ?_⟩
    · have e5 : (h : Int) * ((((ns.map V.int).length : Nat) : Int) - (0 + (i : Int))) + ((((ns.drop (i + 1)).filter (fun y => decide (y < x))).map (fun y => V.int y)).length : Nat) = ((h * (ns.length - i) + ((ns.drop (i + 1)).filter (fun y => decide (y < x))).length : Nat) : Int) := by
        have e6 : (((ns.map V.int).length : Nat) : Int) - (0 + (i : Int)) = ((ns.length - i : Nat) : Int) := by rw [hlen]; omega
        rw [e6, List.length_map, Int.natCast_add, Int.natCast_mul]
      rw [← e5]; rfl
    · rw [he, rk_drop hx]
      obtain ⟨m, em⟩ : ∃ m, ns.length - i = m + 1 := ⟨ns.length - i - 1, by omega⟩
      have em2 : ns.length - (i + 1) = m := by omega
      rw [em, em2]
      show h * ((m + 1) * fct m) + _ = _
      rw [Nat.add_mul (h * (m + 1)), Nat.mul_assoc h (m + 1)]
      omega
  · rintro σ H1 ⟨v, v', v'', h, rfl, s1, he⟩
    have e : rk ns = h := by
      rw [he, Nat.sub_self, List.drop_length]
      show h * 1 + 0 = h
      omega
    rw [e] at q
    exact ⟨_, rfl, q _ s1⟩
def sp_ltotal : Sp := fun vs H Q _ => ∃ n : Nat, vs = [.int (n : Nat)] ∧ n ≤ 1000 ∧ Q (.int (fct n : Int)) H
theorem ok_total (T : Txt K mg) : FnOk P w K mg base CX0 1 T.f_total T.d_total ["_law_many_here"] (sp_ltotal) := by
  refine T.F_total.ok sc_total (fun vs H Q E h => ?_) (fun cdv A outer s H vs Q E hr h => ?_)
  · obtain ⟨n, rfl, hn, q⟩ := h; rfl
  obtain ⟨n, rfl, hn, q⟩ := h
  refine ⟨_, (pss_cons (ps_set (i := 1) sc_total.nd rfl (Or.inl rfl) pe_int)
      (pss_cons (ps_for PassesOwn.never rfl (pi_range1 (by rfl) T.n_range (pa_cons (pv 0) pa_nil)) (pg_name (i := 2) sc_total.nd rfl (Or.inl rfl))
      (pss_one (ps_set (i := 1) sc_total.nd rfl (Or.inl rfl) (pe_op op_mul (pv 1) (pe_op op_add (pv 2) pe_int)))))
      (pss_one (ps_ret (pv 1))))), ?_⟩
  refine ⟨_, rfl, _, rfl, by omega, by omega, for_range (lo := 0) (n := (n : Int).toNat) (fun i σ H' => ∃ v, σ = [some (.int n), some (.int (fct i : Int)), v] ∧ H' = H) ⟨none, rfl, rfl⟩ ?_ ?_⟩
  · rintro i σ H' hi ⟨v, rfl, rfl⟩
    tm_at "go"
    refine ⟨some (.int (0 + (i : Int))), ?_, rfl⟩
    have e : (fct i : Int) * (0 + (i : Int) + 1) = (fct (i + 1) : Int) := by
      show _ = (((i + 1) * fct i : Nat) : Int)
      rw [Int.natCast_mul, Int.mul_comm]; congr 1; omega
    rw [← e]; rfl
  · rintro σ H' ⟨v, rfl, rfl⟩
    have e : (n : Int).toNat = n := by omega
    rw [e]
    exact ⟨_, rfl, q⟩
def sp_lisat (K : PySem.W.Frag) : Sp := fun vs H Q _ => ∃ (p : Addr) (n r : Nat) (ns : List Int), vs = [.ref p, .int (n : Nat), .int (r : Nat)] ∧ n < 64 ∧ H p = some (.tup (ns.map V.int)) ∧ ns.Perm (below n) ∧ rk ns = r ∧ ∀ H', Same H H' → Q (.bl true) H'
theorem ok_is_at (T : Txt K mg) : FnOk P w K mg base CX0 2 T.f_is_at T.d_is_at ["_law_told", "_law_many_here", "_law_rank_here"] (sp_lisat K) := by
  refine T.F_is_at.ok sc_is_at (fun vs H Q E h => ?_) (fun cdv A outer s H vs Q E hr h => ?_)
  · obtain ⟨p, n, r, ns, rfl, hn, hp, hpm, hrk, q⟩ := h; rfl
  obtain ⟨p, n, r, ns, rfl, hn, hp, hpm, hrk, q⟩ := h
  refine ⟨_, (pss_cons (ps_if (PW.pt (pw_or (pt_not (pt_val (pe_callB call_isi (by rfl) T.n_isinstance (by decide +kernel) (pa_cons (pv 0) (pa_cons (pe_bltn (v := .ty "tuple") (by rfl) T.n_tuple (by decide +kernel) rfl) pa_nil))))) (pw_or1 (pt_cmpR op_ne (pe_callB call_len_seq (by rfl) T.n_len (by decide +kernel) (pa_cons (pv 0) pa_nil)) (pv 1) (nomark _))))) (pss_one (ps_ret pe_bl)) pss_nil)
      (pss_cons (ps_if (PW.pt (pw_or (pt_not (pt_val (pe_callB (cr_all rfl) (by rfl) T.n_all (by decide +kernel) (pa_cons (pe_lc (own := [("_law_place", 3)]) (g := gName 3) (tt := tYes) rfl sc_is_at.nd (pi_tup (pv 0)) (blkOk_by (own := [("_law_place", 3)]) (N := ["_law_told", "_law_many_here", "_law_rank_here", "_law_place"]) (sc := defScope s_is_at) (by decide +kernel)) (fun _ _ _ _ _ => (pg_name (i := 3) sc_is_at.nd rfl (Or.inl rfl))) (fun _ _ _ _ _ => pts_nil) (fun _ _ _ _ _ => (pe_call (ok_whole T) (hr.mono (by decide)) rfl T.g_whole T.k_whole T.b_whole .nil pass0 (pa_cons (pv 3) pa_nil)))) pa_nil)))) (pw_or1 (pt_cmpR (op_neD hr.units) (pe_callB cr_sortT (by rfl) T.n_sorted (by decide +kernel) (pa_cons (pv 0) pa_nil)) (pe_listRg rfl (by rfl) T.n_list (prg_1 (by rfl) T.n_range (pv 1))) (nomark _))))) (pss_one (ps_ret pe_bl)) pss_nil)
      (pss_one (ps_ret (pe_cmpR op_eq (pe_call (ok_rank T) (hr.mono (by decide)) rfl T.g_rank T.k_rank T.b_rank .nil pass0 (pa_cons (pv 0) pa_nil)) (pv 2) (nomark _)))))), ?_⟩
  have hl : ns.length = n := by rw [hpm.length_eq, below_len]
  have hlen : (ns.map V.int).length = ns.length := List.length_map ..
  tm_at "go"
  refine ⟨_, _, _, _, _, rfl, ClsV.ty _, kn_tup hp, kit_ty (kb_tuple _), ?_⟩
  tm_at "go"
  refine ifF (by rw [hlen, hl]; simp) ?_
  refine ⟨_, rfl, p, rfl, ⟨_, SqT.of hp⟩, ?_⟩
  refine lcP (b := true) (e := V.int) (as := ns) (fun _ => true) (fun _ => .bl true) hp (by omega) (fun _ => rfl) (fun x H' _ _ R k => k _ (Same.refl _)) (fun x H' hx _ s' R k => ?_) (fun D H1 nD s1 hD => ?_)
  · tm_at "go"
    exact ⟨_, _, rfl, kn_int _, k _ (Same.refl _)⟩
  refine ⟨D, _, rfl, SqL.of (by rw [hD, filter_yes, map_true]), ?_⟩
  rw [all_yes]
  have hp1 := s1.g hp
  tm_at "go"
  refine ⟨p, ns, rfl, hp1, by omega, fun ms t pm up nt => ?_⟩
  have em := sorted_below pm hpm up
  subst em
  have s2 := s1.mk (o := .lst ((below n).map V.int)) nt
  tm_at "go"
  refine ⟨⟨by omega, by omega, by omega, by omega, by omega⟩, fun u nu => ?_⟩
  have erg : rgV 0 (n : Int) = (below n).map V.int := rg_ints
  rw [erg]
  have s3 := s2.mk (o := .lst ((below n).map V.int)) nu
  refine neI (b := false) (c := false) (ns := below n) (ms := below n) (by tm_at "hp") upd_same ?_
  tm_at "go"
  refine ifF (by simp) ?_
  tm_at "go"
  refine ⟨p, ns, rfl, s3.g hp, by omega, fun H5 s5 => ?_⟩
  tm_at "go"
  have e : decide (V.int (rk ns : Int) = V.int (r : Int)) = true := decide_eq_true (by rw [hrk])
  rw [e]
  exact q _ (s3.trans s5)
theorem rises_few : ∀ n : Nat, n < 5 → ∀ r : Nat, r < 24 → r + 1 < fct n → leT (unr n (below n) (r + 1)) (unr n (below n) r) = false := by decide +kernel
def sp_lall (K : PySem.W.Frag) : Sp := fun vs H Q _ => ∃ n : Nat, vs = [.int (n : Nat)] ∧ n < 5 ∧ ∀ H', Same H H' → Q (.bl true) H'
theorem fct_few : ∀ n : Nat, n < 5 → fct n < 25 := by decide
theorem ok_all (T : Txt K mg) : FnOk P w K mg base CX0 5 T.f_all T.d_all ["_law_many_here"] (sp_lall K) := by
  refine T.F_all.ok sc_all (fun vs H Q E h => ?_) (fun cdv A outer s H vs Q E hr h => ?_)
  · obtain ⟨n, rfl, hn, q⟩ := h; rfl
  obtain ⟨n, rfl, hn, q⟩ := h
  refine ⟨_, (pss_cons (ps_set (i := 1) sc_all.nd rfl (Or.inl rfl) pe_non)
      (pss_cons (ps_for PassesOwn.never rfl (pi_range1 (by rfl) T.n_range (pa_cons (pe_call (ok_total T) (hr.mono (by decide)) rfl T.g_total T.k_total T.b_total .nil pass0 (pa_cons (pv 0) pa_nil)) pa_nil)) (pg_name (i := 2) sc_all.nd rfl (Or.inl rfl))
      (pss_cons (ps_set (i := 3) sc_all.nd rfl (Or.inl rfl) (pe_call (ok_order_at T) (hr.mono (by decide)) rfl T.g_order_at T.k_order_at T.b_order_at .nil pass0 (pa_cons (pv 0) (pa_cons (pv 2) pa_nil))))
      (pss_cons (ps_if (PW.pt (pw_or (pt_not (pt_val (pe_call (ok_is_at T) (hr.mono (by decide)) rfl T.g_is_at T.k_is_at T.b_is_at .nil pass0 (pa_cons (pv 3) (pa_cons (pv 0) (pa_cons (pv 2) pa_nil)))))) (pw_or1 (PW.pt (pw_and (pt_cmpR op_notN (pv 1) pe_non (nomark _)) (pw_and1 (pt_cmpR (op_leT hr.units0) (pv 3) (pv 1) (nomark _)))))))) (pss_one (ps_ret pe_bl)) pss_nil)
      (pss_one (ps_set (i := 1) sc_all.nd rfl (Or.inl rfl) (pv 3))))))
      (pss_one (ps_ret pe_bl)))), ?_⟩
  have hff := fct_few n hn
  tm_at "go"
  refine ⟨by omega, ?_⟩
  tm_at "go"
  refine ⟨by omega, by omega, ?_⟩
  have en : ((fct n : Nat) : Int).toNat = fct n := by omega
  rw [en]
  refine for_range (lo := 0) (n := fct n) (fun i σ H' => ∃ (v v' : Option V) (w : V), σ = [some (.int n), some w, v, v'] ∧ Same H H' ∧ ((i = 0 ∧ w = .non) ∨ ∃ r o, i = r + 1 ∧ w = .ref o ∧ H' o = some (.tup ((unr n (below n) r).map V.int)))) ⟨none, none, .non, rfl, Same.refl _, .inl ⟨rfl, rfl⟩⟩ ?_ ?_
  · rintro i σ H1 hi ⟨v, v', w, rfl, s1, hw⟩
    have e0 : (0 : Int) + (i : Int) = i := by omega
    rw [e0]
    tm_at "go"
    refine ⟨by omega, hi, fun H2 t s2 ht => ?_⟩
    tm_at "go"
    refine ⟨t, n, i, _, rfl, by omega, ht, unr_perm n _ i (below_len n) hi, rk_unr n _ i (below_up n) (below_len n) hi, fun H3 s3 => ?_⟩
    have s13 := (s1.trans s2).trans s3
    have ht3 := s3.g ht
    rcases hw with ⟨rfl, rfl⟩ | ⟨r, o, rfl, rfl, ho⟩
    · tm_at "go"
      exact ⟨_, _, _, rfl, s13, .inr ⟨0, t, rfl, rfl, ht3⟩⟩
    · tm_at "go"
      refine le_t ht3 (s3.g (s2.g ho)) ?_
      rw [rises_few n hn r (by omega) hi]
      tm_at "go"
      exact ⟨_, _, _, rfl, s13, .inr ⟨r + 1, t, rfl, rfl, ht3⟩⟩
  · rintro σ H1 ⟨v, v', w, rfl, s1, hw⟩
    exact q _ s1
/-! ### the law -/
def sp_law (K : PySem.W.Frag) : Sp := fun vs H Q _ => ∃ (a : Addr) (ns : List Int), vs = [.ref a] ∧ SqL K H a (ns.map V.int) ∧ ns.length ≤ 63 ∧ ∀ H', Q (.bl true) H'
theorem ok_law (T : Txt K mg) : FnOk P w K mg base CX0 6 T.f_law T.d_law ["_law_script"] (sp_law K) := by
  refine T.F_law.ok sc_law (fun vs H Q E h => ?_) (fun cdv A outer s H vs Q E hr h => ?_)
  · obtain ⟨a, sc, rfl, hS, hl63, q⟩ := h; rfl
  obtain ⟨a, sc, rfl, hS, hl63, q⟩ := h
  refine ⟨_, (pss_cons (ps_for PassesOwn.never rfl (pi_range1 (by rfl) T.n_range (pa_cons (pe_callB (call_max2 rfl) (by rfl) T.n_max (by decide +kernel) (pa_cons pe_int (pa_cons (pe_callB (call_min2 rfl) (by rfl) T.n_min (by decide +kernel) (pa_cons (pe_callB call_len_seq (by rfl) T.n_len (by decide +kernel) (pa_cons (pv 0) pa_nil)) (pa_cons pe_int pa_nil))) pa_nil))) pa_nil)) (pg_name (i := 1) sc_law.nd rfl (Or.inl rfl))
      (pss_cons (ps_set (i := 2) sc_law.nd rfl (Or.inl rfl) (pe_call (ok_well T) (hr.mono (by decide)) rfl T.g_well T.k_well T.b_well .nil pass0 (pa_cons (pe_call (ok_cell T) (hr.mono (by decide)) rfl T.g_cell T.k_cell T.b_cell .nil pass0 (pa_cons (pv 0) (pa_cons (pv 1) pa_nil))) pa_nil)))
      (C8.pss_cut (ps_set (i := 3) sc_law.nd rfl (Or.inl rfl) (pe_call (ok_many T) (hr.mono (by decide)) rfl T.g_many T.k_many T.b_many .nil pass0 (pa_cons (pv 2) (pa_cons pe_int pa_nil))))
      (pss_cons (ps_set (i := 4) sc_law.nd rfl (Or.inl rfl) (pe_call (ok_total T) (hr.mono (by decide)) rfl T.g_total T.k_total T.b_total .nil pass0 (pa_cons (pv 3) pa_nil)))
      (pss_cons (ps_set (i := 5) sc_law.nd rfl (Or.inl rfl) (pe_call (ok_orders_many T) (hr.mono (by decide)) rfl T.g_orders_many T.k_orders_many T.b_orders_many .nil pass0 (pa_cons (pv 3) pa_nil)))
      (pss_cons (ps_if (PW.pt (pw_or (pt_not (pt_val (pe_call (ok_whole T) (hr.mono (by decide)) rfl T.g_whole T.k_whole T.b_whole .nil pass0 (pa_cons (pv 5) pa_nil)))) (pw_or1 (pt_cmpR op_ne (pv 5) (pv 4) (nomark _))))) (pss_one (ps_ret pe_bl)) pss_nil)
      (C8.pss_cut (ps_set (i := 6) sc_law.nd rfl (Or.inl rfl) (pe_ix ix_list (pe_lst (pa_cons pe_int (pa_cons (pe_op op_sub (pv 4) pe_int) (pa_cons (pe_op op_fdivW (pv 4) pe_int) (pa_cons (pe_call (ok_far T) (hr.mono (by decide)) rfl T.g_far T.k_far T.b_far .nil pass0 (pa_cons (pv 2) (pa_cons (pv 4) pa_nil))) pa_nil))))) (pe_call (ok_draw T) (hr.mono (by decide)) rfl T.g_draw T.k_draw T.b_draw .nil pass0 (pa_cons (pv 2) (pa_cons pe_int pa_nil))) (fun _ _ => rfl)))
      (pss_cons (ps_if (pt_not (pt_val (pe_call (ok_is_at T) (hr.mono (by decide)) rfl T.g_is_at T.k_is_at T.b_is_at .nil pass0 (pa_cons (pe_call (ok_order_at T) (hr.mono (by decide)) rfl T.g_order_at T.k_order_at T.b_order_at .nil pass0 (pa_cons (pv 3) (pa_cons (pv 6) pa_nil))) (pa_cons (pv 3) (pa_cons (pv 6) pa_nil)))))) (pss_one (ps_ret pe_bl)) pss_nil)
      (pss_one (ps_if (PW.pt (pw_and (pt_cmpR op_lt (pv 3) pe_int (nomark _)) (pw_and1 (pt_not (pt_val (pe_call (ok_all T) (hr.mono (by decide)) rfl T.g_all T.k_all T.b_all .nil pass0 (pa_cons (pv 3) pa_nil))))))) (pss_one (ps_ret pe_bl)) pss_nil))))))))))
      (pss_one (ps_ret pe_bl))), ?_⟩
  refine ⟨_, rfl, a, _, rfl, .inl hS, _, _, rfl, _, _, rfl, _, rfl, ?_, ?_, ?_⟩
  · split <;> split <;> omega
  · split <;> split <;> omega
  refine for_range (lo := 0) (n := _) (fun i σ H' => ∃ v1 v2 v3 v4 v5 v6, σ = [some (.ref a), v1, v2, v3, v4, v5, v6] ∧ Same H H')
    ⟨_, _, _, _, _, _, rfl, Same.refl _⟩ ?_ ?_
  · rintro i σ H0 hi ⟨v1, v2, v3, v4, v5, v6, rfl, s0⟩
    tm_at "go"
    refine ⟨a, sc, _, rfl, s0.seq hS, by omega, fun c => ?_⟩
    tm_at "go"
    refine fun w x0 y0 z0 nw => ?_
    have nwH : H w = none := s0.free nw
    refine ⟨fun σ H' => ∃ (n : Nat) (x y z : Int), σ = [some (.ref a), some (.int (0 + (i : Int))), some (.ref w), some (.int n), v4, v5, v6] ∧ n ≤ 20 ∧ H' w = some (wl x y z) ∧ Same H H', ?_, ?_⟩
    · tm_at "go"
      refine ⟨w, 20, x0, y0, z0, rfl, upd_same, by decide, by decide, fun r x1 y1 z1 H1 r0 r1 hw1 f1 => ?_⟩
      have er : ((r.toNat : Nat) : Int) = r := by omega
      exact ⟨r.toNat, x1, y1, z1, by rw [er]; rfl, by omega, hw1, (s0.mk nw).fr nwH f1⟩
    rintro σ H1 ⟨n, x1, y1, z1, rfl, hn, hw1, s1⟩
    have hfn := fct_small n (by omega)
    have hfp := fct_pos n
    tm_at "go"
    refine ⟨by omega, ?_⟩
    tm_at "go"
    refine ⟨hn, fun H2 s2 => ?_⟩
    tm_at "go"
    refine ⟨_, _, rfl, kn_int _, ?_⟩
    tm_at "go"
    refine ifF (by simp) ?_
    have hw2 := s2.g hw1
    have s02 := s1.trans s2
    refine ⟨fun σ H' => ∃ r : Nat, r < fct n ∧ σ = [some (.ref a), some (.int (0 + (i : Int))), some (.ref w), some (.int n), some (.int (fct n : Int)), some (.int (fct n : Int)), some (.int r)] ∧ Same H H', ?_, ?_⟩
    · tm_at "go"
      refine ⟨w, _, x1, y1, z1, rfl, hw2, by omega, fun rf x3 y3 z3 H3 r0 r1 hw3 f3 => ?_⟩
      refine ⟨Nat.le_of_ble_eq_true rfl, fun l nl => ?_⟩
      have hlw : w ≠ l := ne_nn nl hw3
      have s3 := s02.fr nwH f3
      have s4 := s3.mk (o := .lst [.int 0, .int ((fct n : Int) - 1), .int ((fct n : Int) / 2), .int rf]) nl
      tm_at "go"
      refine ⟨_, _, _, _, _, rfl, (by tm_at "hp"), by decide, by decide, fun u x4 y4 z4 u0 u1 => ?_⟩
      have fin : ∀ z : Int, 0 ≤ z → z < fct n → ∃ r : Nat, r < fct n ∧ [some (V.ref a), some (V.int (0 + (i : Int))), some (.ref w), some (.int n), some (.int (fct n : Int)), some (.int (fct n : Int)), some (.int z)] = [some (V.ref a), some (V.int (0 + (i : Int))), some (.ref w), some (.int n), some (.int (fct n : Int)), some (.int (fct n : Int)), some (.int r)] ∧
          Same H (upd (upd H3 l (.lst [.int 0, .int ((fct n : Int) - 1), .int ((fct n : Int) / 2), .int rf])) w (wl x4 y4 z4)) := by
        intro z z0 z1
        have ez : ((z.toNat : Nat) : Int) = z := by omega
        exact ⟨z.toNat, by omega, by rw [ez], s4.mut nwH⟩
      have cs : u = 0 ∨ u = 1 ∨ u = 2 ∨ u = 3 := by omega
      rcases cs with rfl | rfl | rfl | rfl
      · exact ⟨l, _, 0, _, rfl, rfl, SqL.of (by tm_at "hp"), rfl, fin _ (by omega) (by omega)⟩
      · exact ⟨l, _, 1, _, rfl, rfl, SqL.of (by tm_at "hp"), rfl, fin _ (by omega) (by omega)⟩
      · exact ⟨l, _, 2, _, rfl, rfl, SqL.of (by tm_at "hp"), rfl, fin _ (by omega) (by omega)⟩
      · exact ⟨l, _, 3, _, rfl, rfl, SqL.of (by tm_at "hp"), rfl, fin _ (by omega) (by omega)⟩
    rintro σ H3 ⟨r, hr1, rfl, s3⟩
    tm_at "go"
    refine ⟨hn, hr1, fun H4 t s4 ht => ?_⟩
    tm_at "go"
    refine ⟨t, n, r, _, rfl, by omega, ht, unr_perm n _ r (below_len n) hr1, rk_unr n _ r (below_up n) (below_len n) hr1, fun H5 s5 => ?_⟩
    have s35 := (s3.trans s4).trans s5
    tm_at "go"
    refine ite2 (fun c => ?_) (fun c => ?_)
    · have c := of_decide_eq_true c
      tm_at "go"
      refine ⟨by omega, fun H6 s6 => ?_⟩
      tm_at "go"
      exact ⟨_, _, _, _, _, _, rfl, s35.trans s6⟩
    · refine ifF rfl ?_
      exact ⟨_, _, _, _, _, _, rfl, s35⟩
  · rintro σ H' ⟨v1, v2, v3, v4, v5, v6, rfl, s0⟩
    exact q _

end
theorem all_mk {l : PySem.W.OpenLaw} {w : World} {K : PySem.W.Frag} {h : Heap} {mg : Str → Option Value} {fa : Addr} (X : K.In h) (G : h.Ns mainGlobals mg) (hfa : mg "law" = some (.ref fa))
    {f1 : Addr} {od1 an1 : Option Addr} {sl1 : Array (Option Value)} {oc1 kV1 dc1 pm1 cd1 ct1 : Value}
    {f2 : Addr} {od2 an2 : Option Addr} {sl2 : Array (Option Value)} {oc2 kV2 dc2 pm2 cd2 ct2 : Value}
    {f3 : Addr} {od3 an3 : Option Addr} {sl3 : Array (Option Value)} {oc3 kV3 dc3 pm3 cd3 ct3 : Value}
    {f4 : Addr} {od4 an4 : Option Addr} {sl4 : Array (Option Value)} {oc4 kV4 dc4 pm4 cd4 ct4 : Value}
    {f5 : Addr} {od5 an5 : Option Addr} {sl5 : Array (Option Value)} {oc5 kV5 dc5 pm5 cd5 ct5 : Value}
    {f6 : Addr} {od6 an6 : Option Addr} {sl6 : Array (Option Value)} {oc6 kV6 dc6 pm6 cd6 ct6 : Value}
    {f7 : Addr} {od7 an7 : Option Addr} {sl7 : Array (Option Value)} {oc7 kV7 dc7 pm7 cd7 ct7 : Value}
    {f8 : Addr} {od8 an8 : Option Addr} {sl8 : Array (Option Value)} {oc8 kV8 dc8 pm8 cd8 ct8 : Value}
    {f9 : Addr} {od9 an9 : Option Addr} {sl9 : Array (Option Value)} {oc9 kV9 dc9 pm9 cd9 ct9 : Value}
    {f10 : Addr} {od10 an10 : Option Addr} {sl10 : Array (Option Value)} {oc10 kV10 dc10 pm10 cd10 ct10 : Value}
    {f11 : Addr} {od11 an11 : Option Addr} {sl11 : Array (Option Value)} {oc11 kV11 dc11 pm11 cd11 ct11 : Value}
    {f12 : Addr} {od12 an12 : Option Addr} {sl12 : Array (Option Value)} {oc12 kV12 dc12 pm12 cd12 ct12 : Value}
    {f13 : Addr} {od13 an13 : Option Addr} {sl13 : Array (Option Value)} {oc13 kV13 dc13 pm13 cd13 ct13 : Value}
    {f14 : Addr} {od14 an14 : Option Addr} {sl14 : Array (Option Value)} {oc14 kV14 dc14 pm14 cd14 ct14 : Value}
    {f15 : Addr} {od15 an15 : Option Addr} {sl15 : Array (Option Value)} {oc15 kV15 dc15 pm15 cd15 ct15 : Value}
    {f16 : Addr} {od16 an16 : Option Addr} {sl16 : Array (Option Value)} {oc16 kV16 dc16 pm16 cd16 ct16 : Value}
    {t_MOST_RANKED : Tok}
    (a1 : PySem.W.nsIn K mainGlobals "is_whole" = some (some (.ref f1)))
    (l1 : K.lookup f1 = some ⟨oc1, od1, .func (PySem.W.fnOf "is_whole" "is_whole" (defArgs s_is_whole) (defBody s_is_whole) (defScope s_is_whole) .none kV1 dc1 pm1 an1 cd1 ct1), sl1⟩) (c1 : PySem.W.codeIn K cd1 "is_whole" = true) (k1 : PySem.W.keepIn K (.ref f1) = true)
    (a2 : PySem.W.nsIn K mainGlobals "is_within" = some (some (.ref f2)))
    (l2 : K.lookup f2 = some ⟨oc2, od2, .func (PySem.W.fnOf "is_within" "is_within" (defArgs s_is_within) (defBody s_is_within) (defScope s_is_within) .none kV2 dc2 pm2 an2 cd2 ct2), sl2⟩) (c2 : PySem.W.codeIn K cd2 "is_within" = true) (k2 : PySem.W.keepIn K (.ref f2) = true)
    (a3 : PySem.W.nsIn K mainGlobals "products_to" = some (some (.ref f3)))
    (l3 : K.lookup f3 = some ⟨oc3, od3, .func (PySem.W.fnOf "products_to" "products_to" (defArgs s_products_to) (defBody s_products_to) (defScope s_products_to) .none kV3 dc3 pm3 an3 cd3 ct3), sl3⟩) (c3 : PySem.W.codeIn K cd3 "products_to" = true) (k3 : PySem.W.keepIn K (.ref f3) = true)
    (a4 : PySem.W.nsIn K mainGlobals "orders_many" = some (some (.ref f4)))
    (l4 : K.lookup f4 = some ⟨oc4, od4, .func (PySem.W.fnOf "orders_many" "orders_many" (defArgs s_orders_many) (defBody s_orders_many) (defScope s_orders_many) .none kV4 dc4 pm4 an4 cd4 ct4), sl4⟩) (c4 : PySem.W.codeIn K cd4 "orders_many" = true) (k4 : PySem.W.keepIn K (.ref f4) = true)
    (a5 : PySem.W.nsIn K mainGlobals "order_at" = some (some (.ref f5)))
    (l5 : K.lookup f5 = some ⟨oc5, od5, .func (PySem.W.fnOf "order_at" "order_at" (defArgs s_order_at) (defBody s_order_at) (defScope s_order_at) .none kV5 dc5 pm5 an5 cd5 ct5), sl5⟩) (c5 : PySem.W.codeIn K cd5 "order_at" = true) (k5 : PySem.W.keepIn K (.ref f5) = true)
    (a6 : PySem.W.nsIn K mainGlobals "_law_cell" = some (some (.ref f6)))
    (l6 : K.lookup f6 = some ⟨oc6, od6, .func (PySem.W.fnOf "_law_cell" "_law_cell" (defArgs s_cell) (defBody s_cell) (defScope s_cell) .none kV6 dc6 pm6 an6 cd6 ct6), sl6⟩) (c6 : PySem.W.codeIn K cd6 "_law_cell" = true) (k6 : PySem.W.keepIn K (.ref f6) = true)
    (a7 : PySem.W.nsIn K mainGlobals "_law_well" = some (some (.ref f7)))
    (l7 : K.lookup f7 = some ⟨oc7, od7, .func (PySem.W.fnOf "_law_well" "_law_well" (defArgs s_well) (defBody s_well) (defScope s_well) .none kV7 dc7 pm7 an7 cd7 ct7), sl7⟩) (c7 : PySem.W.codeIn K cd7 "_law_well" = true) (k7 : PySem.W.keepIn K (.ref f7) = true)
    (a8 : PySem.W.nsIn K mainGlobals "_law_draw" = some (some (.ref f8)))
    (l8 : K.lookup f8 = some ⟨oc8, od8, .func (PySem.W.fnOf "_law_draw" "_law_draw" (defArgs s_draw) (defBody s_draw) (defScope s_draw) .none kV8 dc8 pm8 an8 cd8 ct8), sl8⟩) (c8 : PySem.W.codeIn K cd8 "_law_draw" = true) (k8 : PySem.W.keepIn K (.ref f8) = true)
    (a9 : PySem.W.nsIn K mainGlobals "_law_far" = some (some (.ref f9)))
    (l9 : K.lookup f9 = some ⟨oc9, od9, .func (PySem.W.fnOf "_law_far" "_law_far" (defArgs s_far) (defBody s_far) (defScope s_far) .none kV9 dc9 pm9 an9 cd9 ct9), sl9⟩) (c9 : PySem.W.codeIn K cd9 "_law_far" = true) (k9 : PySem.W.keepIn K (.ref f9) = true)
    (a10 : PySem.W.nsIn K mainGlobals "_law_whole" = some (some (.ref f10)))
    (l10 : K.lookup f10 = some ⟨oc10, od10, .func (PySem.W.fnOf "_law_whole" "_law_whole" (defArgs s_whole) (defBody s_whole) (defScope s_whole) .none kV10 dc10 pm10 an10 cd10 ct10), sl10⟩) (c10 : PySem.W.codeIn K cd10 "_law_whole" = true) (k10 : PySem.W.keepIn K (.ref f10) = true)
    (a11 : PySem.W.nsIn K mainGlobals "_law_rank" = some (some (.ref f11)))
    (l11 : K.lookup f11 = some ⟨oc11, od11, .func (PySem.W.fnOf "_law_rank" "_law_rank" (defArgs s_rank) (defBody s_rank) (defScope s_rank) .none kV11 dc11 pm11 an11 cd11 ct11), sl11⟩) (c11 : PySem.W.codeIn K cd11 "_law_rank" = true) (k11 : PySem.W.keepIn K (.ref f11) = true)
    (a12 : PySem.W.nsIn K mainGlobals "_law_total" = some (some (.ref f12)))
    (l12 : K.lookup f12 = some ⟨oc12, od12, .func (PySem.W.fnOf "_law_total" "_law_total" (defArgs s_total) (defBody s_total) (defScope s_total) .none kV12 dc12 pm12 an12 cd12 ct12), sl12⟩) (c12 : PySem.W.codeIn K cd12 "_law_total" = true) (k12 : PySem.W.keepIn K (.ref f12) = true)
    (a13 : PySem.W.nsIn K mainGlobals "_law_many" = some (some (.ref f13)))
    (l13 : K.lookup f13 = some ⟨oc13, od13, .func (PySem.W.fnOf "_law_many" "_law_many" (defArgs s_many) (defBody s_many) (defScope s_many) .none kV13 dc13 pm13 an13 cd13 ct13), sl13⟩) (c13 : PySem.W.codeIn K cd13 "_law_many" = true) (k13 : PySem.W.keepIn K (.ref f13) = true)
    (a14 : PySem.W.nsIn K mainGlobals "_law_is_at" = some (some (.ref f14)))
    (l14 : K.lookup f14 = some ⟨oc14, od14, .func (PySem.W.fnOf "_law_is_at" "_law_is_at" (defArgs s_is_at) (defBody s_is_at) (defScope s_is_at) .none kV14 dc14 pm14 an14 cd14 ct14), sl14⟩) (c14 : PySem.W.codeIn K cd14 "_law_is_at" = true) (k14 : PySem.W.keepIn K (.ref f14) = true)
    (a15 : PySem.W.nsIn K mainGlobals "_law_all" = some (some (.ref f15)))
    (l15 : K.lookup f15 = some ⟨oc15, od15, .func (PySem.W.fnOf "_law_all" "_law_all" (defArgs s_all) (defBody s_all) (defScope s_all) .none kV15 dc15 pm15 an15 cd15 ct15), sl15⟩) (c15 : PySem.W.codeIn K cd15 "_law_all" = true) (k15 : PySem.W.keepIn K (.ref f15) = true)
    (a16 : PySem.W.nsIn K mainGlobals "law" = some (some (.ref f16)))
    (l16 : K.lookup f16 = some ⟨oc16, od16, .func (PySem.W.fnOf "law" "law" (defArgs s_law) (defBody s_law) (defScope s_law) .none kV16 dc16 pm16 an16 cd16 ct16), sl16⟩) (c16 : PySem.W.codeIn K cd16 "law" = true) (k16 : PySem.W.keepIn K (.ref f16) = true)
    (z_len : PySem.W.nsIn K mainGlobals "len" = some none)
    (z_max : PySem.W.nsIn K mainGlobals "max" = some none)
    (z_min : PySem.W.nsIn K mainGlobals "min" = some none)
    (z_all : PySem.W.nsIn K mainGlobals "all" = some none)
    (z_sorted : PySem.W.nsIn K mainGlobals "sorted" = some none)
    (z_divmod : PySem.W.nsIn K mainGlobals "divmod" = some none)
    (z_isinstance : PySem.W.nsIn K mainGlobals "isinstance" = some none)
    (z_int : PySem.W.nsIn K mainGlobals "int" = some none)
    (z_bool : PySem.W.nsIn K mainGlobals "bool" = some none)
    (z_list : PySem.W.nsIn K mainGlobals "list" = some none)
    (z_tuple : PySem.W.nsIn K mainGlobals "tuple" = some none)
    (z_range : PySem.W.nsIn K mainGlobals "range" = some none)
    (z_reversed : PySem.W.nsIn K mainGlobals "reversed" = some none)
    (y_MOST_RANKED : PySem.W.nsIn K mainGlobals "MOST_RANKED" = some (some (.int (20) t_MOST_RANKED))) :
    ∃ fd : FuncData, (∀ (s : Shared) (v : Value), BindsTo s fd ⟨[v], []⟩ [("_law_script", v)]) ∧ ∀ base : Heap, K.In base → base.Ns mainGlobals mg → FnOk l.prog w K mg base CX0 6 fa fd ["_law_script"] (sp_law K) := by
  have e := hfa.symm.trans (PySem.W.mg_of X G a16)
  cases e
  have F1 := fun_mk (st := s_is_whole) l1 c1 k1
  have b1 := F1.binds (ps := ["thing"]) fun _ _ _ _ _ _ us hl => match us, hl with | [_], _ => rfl
  have F2 := fun_mk (st := s_is_within) l2 c2 k2
  have b2 := F2.binds (ps := ["thing", "low", "high"]) fun _ _ _ _ _ _ us hl => match us, hl with | [_, _, _], _ => rfl
  have F3 := fun_mk (st := s_products_to) l3 c3 k3
  have b3 := F3.binds (ps := ["many"]) fun _ _ _ _ _ _ us hl => match us, hl with | [_], _ => rfl
  have F4 := fun_mk (st := s_orders_many) l4 c4 k4
  have b4 := F4.binds (ps := ["many"]) fun _ _ _ _ _ _ us hl => match us, hl with | [_], _ => rfl
  have F5 := fun_mk (st := s_order_at) l5 c5 k5
  have b5 := F5.binds (ps := ["many", "rank"]) fun _ _ _ _ _ _ us hl => match us, hl with | [_, _], _ => rfl
  have F6 := fun_mk (st := s_cell) l6 c6 k6
  have b6 := F6.binds (ps := ["_law_script", "_law_k"]) fun _ _ _ _ _ _ us hl => match us, hl with | [_, _], _ => rfl
  have F7 := fun_mk (st := s_well) l7 c7 k7
  have b7 := F7.binds (ps := ["_law_cell_here"]) fun _ _ _ _ _ _ us hl => match us, hl with | [_], _ => rfl
  have F8 := fun_mk (st := s_draw) l8 c8 k8
  have b8 := F8.binds (ps := ["_law_well_here", "_law_many_here"]) fun _ _ _ _ _ _ us hl => match us, hl with | [_, _], _ => rfl
  have F9 := fun_mk (st := s_far) l9 c9 k9
  have b9 := F9.binds (ps := ["_law_well_here", "_law_many_here"]) fun _ _ _ _ _ _ us hl => match us, hl with | [_, _], _ => rfl
  have F10 := fun_mk (st := s_whole) l10 c10 k10
  have b10 := F10.binds (ps := ["_law_thing"]) fun _ _ _ _ _ _ us hl => match us, hl with | [_], _ => rfl
  have F11 := fun_mk (st := s_rank) l11 c11 k11
  have b11 := F11.binds (ps := ["_law_order"]) fun _ _ _ _ _ _ us hl => match us, hl with | [_], _ => rfl
  have F12 := fun_mk (st := s_total) l12 c12 k12
  have b12 := F12.binds (ps := ["_law_many_here"]) fun _ _ _ _ _ _ us hl => match us, hl with | [_], _ => rfl
  have F13 := fun_mk (st := s_many) l13 c13 k13
  have b13 := F13.binds (ps := ["_law_well_here", "_law_most"]) fun _ _ _ _ _ _ us hl => match us, hl with | [_, _], _ => rfl
  have F14 := fun_mk (st := s_is_at) l14 c14 k14
  have b14 := F14.binds (ps := ["_law_told", "_law_many_here", "_law_rank_here"]) fun _ _ _ _ _ _ us hl => match us, hl with | [_, _, _], _ => rfl
  have F15 := fun_mk (st := s_all) l15 c15 k15
  have b15 := F15.binds (ps := ["_law_many_here"]) fun _ _ _ _ _ _ us hl => match us, hl with | [_], _ => rfl
  have F16 := fun_mk (st := s_law) l16 c16 k16
  have b16 := F16.binds (ps := ["_law_script"]) fun _ _ _ _ _ _ us hl => match us, hl with | [_], _ => rfl
  let T : Txt K mg := { f_is_whole := f1, d_is_whole := _, g_is_whole := PySem.W.mg_of X G a1, k_is_whole := k1, F_is_whole := F1, b_is_whole := b1, f_is_within := f2, d_is_within := _, g_is_within := PySem.W.mg_of X G a2, k_is_within := k2, F_is_within := F2, b_is_within := b2, f_products_to := f3, d_products_to := _, g_products_to := PySem.W.mg_of X G a3, k_products_to := k3, F_products_to := F3, b_products_to := b3, f_orders_many := f4, d_orders_many := _, g_orders_many := PySem.W.mg_of X G a4, k_orders_many := k4, F_orders_many := F4, b_orders_many := b4, f_order_at := f5, d_order_at := _, g_order_at := PySem.W.mg_of X G a5, k_order_at := k5, F_order_at := F5, b_order_at := b5, f_cell := f6, d_cell := _, g_cell := PySem.W.mg_of X G a6, k_cell := k6, F_cell := F6, b_cell := b6, f_well := f7, d_well := _, g_well := PySem.W.mg_of X G a7, k_well := k7, F_well := F7, b_well := b7, f_draw := f8, d_draw := _, g_draw := PySem.W.mg_of X G a8, k_draw := k8, F_draw := F8, b_draw := b8, f_far := f9, d_far := _, g_far := PySem.W.mg_of X G a9, k_far := k9, F_far := F9, b_far := b9, f_whole := f10, d_whole := _, g_whole := PySem.W.mg_of X G a10, k_whole := k10, F_whole := F10, b_whole := b10, f_rank := f11, d_rank := _, g_rank := PySem.W.mg_of X G a11, k_rank := k11, F_rank := F11, b_rank := b11, f_total := f12, d_total := _, g_total := PySem.W.mg_of X G a12, k_total := k12, F_total := F12, b_total := b12, f_many := f13, d_many := _, g_many := PySem.W.mg_of X G a13, k_many := k13, F_many := F13, b_many := b13, f_is_at := f14, d_is_at := _, g_is_at := PySem.W.mg_of X G a14, k_is_at := k14, F_is_at := F14, b_is_at := b14, f_all := f15, d_all := _, g_all := PySem.W.mg_of X G a15, k_all := k15, F_all := F15, b_all := b15, f_law := fa, d_law := _, g_law := PySem.W.mg_of X G a16, k_law := k16, F_law := F16, b_law := b16, n_len := PySem.W.mg_none_of X G z_len, n_max := PySem.W.mg_none_of X G z_max, n_min := PySem.W.mg_none_of X G z_min, n_all := PySem.W.mg_none_of X G z_all, n_sorted := PySem.W.mg_none_of X G z_sorted, n_divmod := PySem.W.mg_none_of X G z_divmod, n_isinstance := PySem.W.mg_none_of X G z_isinstance, n_int := PySem.W.mg_none_of X G z_int, n_bool := PySem.W.mg_none_of X G z_bool, n_list := PySem.W.mg_none_of X G z_list, n_tuple := PySem.W.mg_none_of X G z_tuple, n_range := PySem.W.mg_none_of X G z_range, n_reversed := PySem.W.mg_none_of X G z_reversed, c_MOST_RANKED := ⟨_, PySem.W.mg_of X G y_MOST_RANKED⟩ }
  exact ⟨PySem.W.fnOf "law" "law" (defArgs s_law) (defBody s_law) (defScope s_law) .none kV16 dc16 pm16 an16 cd16 ct16, fun s v => .of_eq rfl, fun base _ _ => ok_law T⟩
theorem walk {l : PySem.W.OpenLaw} {q : Program} {loose : List Str} {XP : (Str → Option Value) → Heap → Prop} {YP : World → Heap → Prop} {d : DefRec} {K : Params → PySem.W.Frag} (hn : l.most = some 63) (hdf : d.params.defaults = [])
    (hY : ∀ (w : World) (h : Heap), YP w h → (K w.params).In h)
    (F : ∀ (w : World) (mg : Str → Option Value) (fa : Addr) (h : Heap), (K w.params).In h → h.Ns mainGlobals mg → mg d.name = some (.ref fa) →
      ∃ fd : FuncData, (∀ (s : Shared) (u : Value), BindsTo s fd ⟨[u], []⟩ [("_law_script", u)]) ∧ ∀ base : Heap, (K w.params).In base → base.Ns mainGlobals mg → FnOk l.prog w (K w.params) mg base CX0 6 fa fd ["_law_script"] (sp_law (K w.params))) :
    PySem.W.WalkO q loose XP YP l.row.toRowW d [] (fun f vs => PySem.call f vs) :=
  L2.walk_of (n := 63) (k := 6) (x := "_law_script") (CX := fun _ => CX0) (sp := fun w => sp_law (K w.params)) hn (by decide) hdf ⟨rfl, by decide, by decide⟩ hY F (fun _ _ a ns hl _ hS => ⟨a, ns, rfl, hS, hl, fun _ => rfl⟩) fun _ _ _ _ _ z => z
end S

open PySem PySem.W PyProof.Rows in
set_option maxRecDepth 100000 in
set_option maxHeartbeats 0 in
theorem PySem.Challenge.cw_splitseed_k51_orders_by_rank_holds : PySem.Challenge.rw_splitseed_k51_orders_by_rank.Holds := by
  w_on; o_law; k_head; (case hw => w_witness2)
  k_fill
  refine S.walk (l := PySem.Challenge.rw_splitseed_k51_orders_by_rank) rfl rfl (fun w h Y => PySem.W.kIn_of Y) ?F
  case F =>
    intro w mg fa h KX G hmg
    refine' S.all_mk KX G hmg ?a1 ?l1 ?c1 ?k1 ?a2 ?l2 ?c2 ?k2 ?a3 ?l3 ?c3 ?k3 ?a4 ?l4 ?c4 ?k4 ?a5 ?l5 ?c5 ?k5 ?a6 ?l6 ?c6 ?k6 ?a7 ?l7 ?c7 ?k7 ?a8 ?l8 ?c8 ?k8 ?a9 ?l9 ?c9 ?k9 ?a10 ?l10 ?c10 ?k10 ?a11 ?l11 ?c11 ?k11 ?a12 ?l12 ?c12 ?k12 ?a13 ?l13 ?c13 ?k13 ?a14 ?l14 ?c14 ?k14 ?a15 ?l15 ?c15 ?k15 ?a16 ?l16 ?c16 ?k16 ?z_len ?z_max ?z_min ?z_all ?z_sorted ?z_divmod ?z_isinstance ?z_int ?z_bool ?z_list ?z_tuple ?z_range ?z_reversed ?y_MOST_RANKED
    (case a1 => k_is)
    (case l1 => k_is)
    (case c1 => k_is)
    (case k1 => k_is)
    (case a2 => k_is)
    (case l2 => k_is)
    (case c2 => k_is)
    (case k2 => k_is)
    (case a3 => k_is)
    (case l3 => k_is)
    (case c3 => k_is)
    (case k3 => k_is)
    (case a4 => k_is)
    (case l4 => k_is)
    (case c4 => k_is)
    (case k4 => k_is)
    (case a5 => k_is)
    (case l5 => k_is)
    (case c5 => k_is)
    (case k5 => k_is)
    (case a6 => k_is)
    (case l6 => k_is)
    (case c6 => k_is)
    (case k6 => k_is)
    (case a7 => k_is)
    (case l7 => k_is)
    (case c7 => k_is)
    (case k7 => k_is)
    (case a8 => k_is)
    (case l8 => k_is)
    (case c8 => k_is)
    (case k8 => k_is)
    (case a9 => k_is)
    (case l9 => k_is)
    (case c9 => k_is)
    (case k9 => k_is)
    (case a10 => k_is)
    (case l10 => k_is)
    (case c10 => k_is)
    (case k10 => k_is)
    (case a11 => k_is)
    (case l11 => k_is)
    (case c11 => k_is)
    (case k11 => k_is)
    (case a12 => k_is)
    (case l12 => k_is)
    (case c12 => k_is)
    (case k12 => k_is)
    (case a13 => k_is)
    (case l13 => k_is)
    (case c13 => k_is)
    (case k13 => k_is)
    (case a14 => k_is)
    (case l14 => k_is)
    (case c14 => k_is)
    (case k14 => k_is)
    (case a15 => k_is)
    (case l15 => k_is)
    (case c15 => k_is)
    (case k15 => k_is)
    (case a16 => k_is)
    (case l16 => k_is)
    (case c16 => k_is)
    (case k16 => k_is)
    (case z_len => k_is)
    (case z_max => k_is)
    (case z_min => k_is)
    (case z_all => k_is)
    (case z_sorted => k_is)
    (case z_divmod => k_is)
    (case z_isinstance => k_is)
    (case z_int => k_is)
    (case z_bool => k_is)
    (case z_list => k_is)
    (case z_tuple => k_is)
    (case z_range => k_is)
    (case z_reversed => k_is)
    (case y_MOST_RANKED => k_is)
#print axioms PySem.Challenge.cw_splitseed_k51_orders_by_rank_holds