import PyProof.Rows.All
import Wide.All
import OpenK.AllK
import Wide.FinOn
import HandS.ForMost
import HandS.Conv
import HandS.RevRange
import HandS.WideBits
import HandS.Wide
import HandS.IsInst
import HandS.TupLe
import HandS.Zip
import HandS.Codes
import PySem.Challenge.RW_splitseed_k57_shares
set_option Elab.async false
set_option linter.all false
set_option maxRecDepth 100000
set_option maxHeartbeats 200000
namespace S
open PySem L2
/-! ### my own small words -/
theorem ifT {c : Bool} {A B : Prop} (hc : c = true) (h : A) : if c = true then A else B := by rw [if_pos hc]; exact h
theorem ifF {c : Bool} {A B : Prop} (hc : c = false) (h : B) : if c = true then A else B := by
  rw [hc, if_neg Bool.false_ne_true]; exact h
theorem _root_.L2.Same.g {H H' : Hp} {b : Addr} {o : HO} (s : Same H H') (h : H b = some o) : H' b = some o := s b o h
theorem ne_nn {H : Hp} {a b : Addr} {o : HO} (h' : H b = none) (h : H a = some o) : a ≠ b := ne_of_none h h'
/-- all but what stands at a is kept -/
def Fr (a : Addr) (H H' : Hp) : Prop := ∀ b o, b ≠ a → H b = some o → H' b = some o
theorem Fr.g {a : Addr} {H H' : Hp} {b : Addr} {o : HO} (f : Fr a H H') (n : b ≠ a) (h : H b = some o) : H' b = some o := f b o n h
theorem Fr.refl (a : Addr) (H : Hp) : Fr a H H := fun _ _ _ h => h
theorem Fr.trans {a : Addr} {H H1 H2 : Hp} (f : Fr a H H1) (g : Fr a H1 H2) : Fr a H H2 := fun b o n h => g b o n (f b o n h)
theorem Fr.ofSame {a : Addr} {H H' : Hp} (s : Same H H') : Fr a H H' := fun b o _ h => s b o h
theorem Fr.put {a : Addr} {H : Hp} {o : HO} : Fr a H (upd H a o) := fun b u n h => by rw [upd_ne n]; exact h
theorem _root_.L2.Same.new {H : Hp} {p : Addr} {o : HO} (h : H p = none) : Same H (upd H p o) := fun b u e => by
  rw [upd_ne (ne_of_none e h)]; exact e
/-- an object that H does not know may change -/
theorem _root_.L2.Same.mut {H H' : Hp} {p : Addr} {o : HO} (e : Same H H') (h : H p = none) : Same H (upd H' p o) := fun b u q => by
  rw [upd_ne (ne_of_none q h)]; exact e b u q
theorem Fr.mut {a : Addr} {H H' : Hp} {p : Addr} {o : HO} (e : Fr a H H') (h : H p = none) : Fr a H (upd H' p o) := fun b u n q => by
  rw [upd_ne (ne_of_none q h)]; exact e b u n q
theorem Fr.free {a p : Addr} {H H' : Hp} {o : HO} (f : Fr a H H') (ha : H' a = some o) (h : H' p = none) : H p = none := by
  cases q : H p with
  | none => rfl
  | some u =>
    have n : p ≠ a := fun e => by rw [e, ha] at h; cases h
    rw [f p u n q] at h; cases h
theorem _root_.L2.Same.tup {K : PySem.W.Frag} {H H' : Hp} {a : Addr} {xs : List V} (e : Same H H') : SqT K H a xs → SqT K H' a xs
  | .inl (.inl h) => .inl (.inl (e _ _ h))
  | .inl (.inr ⟨o, h⟩) => .inl (.inr ⟨o, e _ _ h⟩)
  | .inr h => .inr h
abbrev wl (x y z : Int) : HO := .lst [.int x, .int y, .int z]
/-! ### kinds of things -/
inductive Kd where | non | bl | int | str | lst | tup | dct
  deriving DecidableEq
def Kd.nm : Kd → String
  | .non => "NoneType" | .bl => "bool" | .int => "int" | .str => "str" | .lst => "list" | .tup => "tuple" | .dct => "dict"
def Kn (K : PySem.W.Frag) (H : Hp) (x : V) (k : Kd) : Prop := TyX K H x (.type k.nm)
theorem kb_int (k : Kd) : kitB k.nm "int" = some (decide (k = .int ∨ k = .bl)) := by cases k <;> decide +kernel
theorem kb_bool (k : Kd) : kitB k.nm "bool" = some (decide (k = .bl)) := by cases k <;> decide +kernel
theorem kb_str (k : Kd) : kitB k.nm "str" = some (decide (k = .str)) := by cases k <;> decide +kernel
theorem kb_list (k : Kd) : kitB k.nm "list" = some (decide (k = .lst)) := by cases k <;> decide +kernel
theorem kb_tuple (k : Kd) : kitB k.nm "tuple" = some (decide (k = .tup)) := by cases k <;> decide +kernel
theorem kb_dict (k : Kd) : kitB k.nm "dict" = some (decide (k = .dct)) := by cases k <;> decide +kernel
theorem kn_int {K : PySem.W.Frag} {H : Hp} (i : Int) : Kn K H (.int i) .int := .base (.int i)
theorem kn_bl {K : PySem.W.Frag} {H : Hp} (b : Bool) : Kn K H (.bl b) .bl := .base (.bl b)
theorem kn_non {K : PySem.W.Frag} {H : Hp} : Kn K H .non .non := .base .non
theorem kn_str {K : PySem.W.Frag} {H : Hp} (x : Str) : Kn K H (.str x) .str := .base (.str x)
theorem kn_lst {K : PySem.W.Frag} {H : Hp} {a : Addr} {xs : List V} (e : H a = some (.lst xs)) : Kn K H (.ref a) .lst := .base (.lst e)
theorem kn_tup {K : PySem.W.Frag} {H : Hp} {a : Addr} {xs : List V} (e : H a = some (.tup xs)) : Kn K H (.ref a) .tup := .base (.tup e)
theorem kn_dK {K : PySem.W.Frag} {H : Hp} {a : Addr} {xs : List (Key × V)} (e : H a = some (.dK xs)) : Kn K H (.ref a) .dct := .base (.dK e)
def isI : V → Bool | .int _ => true | _ => false
def isB : V → Bool | .bl _ => true | _ => false
def isS : V → Bool | .str _ => true | _ => false
theorem Kn.isI {K : PySem.W.Frag} {H : Hp} {x : V} {k : Kd} (h : Kn K H x k) : S.isI x = decide (k = .int) := by
  unfold Kn at h
  generalize e : Value.type k.nm = u at h
  cases h with
  | base b => cases b <;> (cases k <;> first | rfl | (exfalso; revert e; simp [Kd.nm]))
  | _ => cases k <;> first | rfl | (exfalso; revert e; simp [Kd.nm])
theorem Kn.isB {K : PySem.W.Frag} {H : Hp} {x : V} {k : Kd} (h : Kn K H x k) : S.isB x = decide (k = .bl) := by
  unfold Kn at h
  generalize e : Value.type k.nm = u at h
  cases h with
  | base b => cases b <;> (cases k <;> first | rfl | (exfalso; revert e; simp [Kd.nm]))
  | _ => cases k <;> first | rfl | (exfalso; revert e; simp [Kd.nm])
theorem Kn.isS {K : PySem.W.Frag} {H : Hp} {x : V} {k : Kd} (h : Kn K H x k) : S.isS x = decide (k = .str) := by
  unfold Kn at h
  generalize e : Value.type k.nm = u at h
  cases h with
  | base b => cases b <;> (cases k <;> first | rfl | (exfalso; revert e; simp [Kd.nm]))
  | _ => cases k <;> first | rfl | (exfalso; revert e; simp [Kd.nm])
def wb (x : V) (lo hi : Int) : Bool := match x with | .int i => decide (lo ≤ i) && decide (i ≤ hi) | _ => false
/-! ### a list or a tuple -/
def sq (b : Bool) (xs : List V) : HO := if b then .tup xs else .lst xs
def Itb (b : Bool) (K : PySem.W.Frag) (a : Addr) : It := if b then Itt K a else Itl K a
def iSeq (K : PySem.W.Frag) (tl : TE) : TI := fun σ H R => tl σ H fun x H1 => ∃ (a : Addr) (b : Bool) (xs : List V), x = .ref a ∧ H1 a = some (sq b xs) ∧ R (Itb b K a) H1
theorem pi_seq {X : Cx} {tg l : Expr} {tl : TE} (he : PE X l tl) : PI X tg l (iSeq X.K tl) := by
  constructor
  intro ps st σ H R inv h
  refine thn (he.run ps st σ H _ inv h) ?_
  rintro v st1 ⟨x, H1, inv1, rel, a, b, xs, rfl, hq, q⟩
  cases rel
  cases b with
  | false =>
    obtain ⟨its, _, li, _⟩ := inv1.list (SqL.of (K := X.K) hq)
    exact wpAny_pyIter_list li.isList (pi_one (tk := st1.toks) inv1 _ (turn_list a _) ⟨_, Heap.get?_push_size _ rfl, rfl, rfl⟩ q)
  | true =>
    obtain ⟨its, _, tu, _⟩ := inv1.tuple (SqT.of (K := X.K) hq)
    have tu : st1.heap.IsTuple a its.toArray := tu
    exact wpAny_pyIter_tuple tu (pi_one (tk := st1.toks) inv1 _ (turn_tuple a _) ⟨_, Heap.get?_push_size _ rfl, rfl, rfl⟩ q)
theorem for_sq {K : PySem.W.Frag} {a : Addr} {b : Bool} {xs : List V} {g : TG} {tb : TS} {D : Ends} {σ : L2.St} {H : Hp} (Pv : Nat → L2.St → Hp → Prop) (h0 : Pv 0 σ H) (hl : ∀ i σ H, i ≤ xs.length → Pv i σ H → H a = some (sq b xs))
    (turn : ∀ i x σ H, xs[i]? = some x → Pv i σ H → g x σ H fun σ2 H2 => tb ⟨Pv (i + 1), D.rt, D.nx, Pv (i + 1)⟩ σ2 H2) (fin : ∀ σ H, Pv xs.length σ H → D.nx σ H) :
    tFor (fun _ H R => R (Itb b K a) H) g tb D σ H := by
  cases b with
  | false => exact for_list (K := K) (a := a) (xs := xs) Pv h0 (fun i σ H hi p => SqL.of (hl i σ H hi p)) turn fin
  | true => exact for_tup (K := K) (a := a) (xs := xs) Pv h0 (fun i σ H hi p => SqT.of (hl i σ H hi p)) turn fin
theorem take_more {α : Type} {l : List α} {i : Nat} {x : α} (h : l[i]? = some x) : l.take (i + 1) = l.take i ++ [x] := by
  rw [List.take_add_one, h]; rfl
/-- a comprehension's turns, from the new list at D on -/
def LcOk (J : It) (g : TG) (tt : TT) (te : TE) (vs : List Nat) (σ : L2.St) (H1 : Hp) (D : Addr) (Qd : Hp → Prop) : Prop :=
  ∃ W : Nat → Nat → Hp → Prop, (∃ m, W 0 m (upd H1 D (.lst []))) ∧ (∀ (i m : Nat) (h : Hp), W i m h →
    (J.stop i h ∧ Qd h) ∨ (J.go i h ∧ ∃ Nx : Hp → Prop, (∀ h', Nx h' → ∃ m', m' < m ∧ W (i + 1) m' h') ∧
      (∀ x h', J.yld i h x h' → g x (wipe σ vs) h' (fun s2 h2 => wipe s2 vs = wipe σ vs ∧
        tt s2 h2 (fun k h3 => if k = true then te s2 h3 (fun y h4 =>
          ∃ acc, h4 D = some (.lst acc) ∧ acc.length < sizeLine ∧ Nx (upd h4 D (.lst (acc ++ [y])))) else Nx h3)))))
/-- a comprehension over a list or a tuple whose element and test make new things alone -/
theorem lcP {α : Type} {K : PySem.W.Frag} {a : Addr} {b : Bool} {e : α → V} {as : List α} {j : Nat} {tt : TT} {te : TE} {vs : List Nat} {σ : L2.St} {H1 : Hp} {Qd : Addr → Hp → Prop} (t : α → Bool) (f : α → V)
    (hsrc : H1 a = some (sq b (as.map e))) (hlen : as.length ≤ 1000000) (hw : ∀ x, wipe ((wipe σ vs).set j (some x)) vs = wipe σ vs)
    (hs : ∀ (x : α) (H' : Hp), x ∈ as → Same H1 H' → ∀ R : Bool → Hp → Prop, (∀ H2, Same H' H2 → R (t x) H2) → tt ((wipe σ vs).set j (some (e x))) H' R)
    (he : ∀ (x : α) (H' : Hp), x ∈ as → t x = true → Same H1 H' → ∀ R : VK, (∀ H2, Same H' H2 → R (f x) H2) → te ((wipe σ vs).set j (some (e x))) H' R)
    (fin : ∀ D H', H1 D = none → Same H1 H' → H' D = some (.lst ((as.filter t).map f)) → Qd D H') :
    ∀ D, H1 D = none → LcOk (Itb b K a) (gName j) tt te vs σ H1 D (Qd D) := by
  intro D hD
  have key : ∀ i y H, (as.map e)[i]? = some y → (Same H1 H ∧ H D = some (.lst (((as.take i).filter t).map f))) → gName j y (wipe σ vs) H fun σ2 H2 => wipe σ2 vs = wipe σ vs ∧ tt σ2 H2 fun k H3 =>
      if k = true then te σ2 H3 fun z H4 => ∃ acc, H4 D = some (.lst acc) ∧ acc.length < sizeLine ∧ (Same H1 (upd H4 D (.lst (acc ++ [z]))) ∧ upd H4 D (.lst (acc ++ [z])) D = some (.lst (((as.take (i + 1)).filter t).map f))) else (Same H1 H3 ∧ H3 D = some (.lst (((as.take (i + 1)).filter t).map f))) := by
    intro i y H hy p
    obtain ⟨x, hx, rfl⟩ : ∃ x, as[i]? = some x ∧ y = e x := by
      rw [List.getElem?_map] at hy
      cases q : as[i]? with
      | none => rw [q] at hy; cases hy
      | some x => rw [q] at hy; exact ⟨x, rfl, (Option.some.inj hy).symm⟩
    have hm : x ∈ as := List.mem_of_getElem? hx
    have e := take_more hx
    refine ⟨hw _, hs x H hm p.1 _ fun H2 s2 => ?_⟩
    refine ite2 (fun c => ?y) (fun c => ?n)
    case y =>
      refine he x H2 hm c (p.1.trans s2) _ fun H3 s3 => ?_
      refine ⟨_, s3 _ _ (s2 _ _ p.2), ?_, Same.mut ((p.1.trans s2).trans s3) hD, ?_⟩
      · have h1 := List.length_filter_le t (as.take i)
        have h2 : (as.take i).length ≤ as.length := by rw [List.length_take]; omega
        rw [List.length_map]
        exact Nat.lt_of_le_of_lt (Nat.le_trans h1 (Nat.le_trans h2 hlen)) (by decide)
      · rw [upd_same, e, List.filter_append, List.map_append]
        simp [List.filter_cons, c]
    case n =>
      refine ⟨p.1.trans s2, ?_⟩
      rw [s2 _ _ p.2, e, List.filter_append, List.map_append]
      simp [List.filter_cons, c]
  have done : ∀ H, (Same H1 H ∧ H D = some (.lst (((as.take (as.map e).length).filter t).map f))) → Qd D H := by
    intro H p
    have h := p.2
    rw [List.length_map, List.take_length] at h
    exact fin D H hD p.1 h
  cases b with
  | false => exact lc_list (K := K) (a := a) (xs := as.map e) (fun i H => Same H1 H ∧ H D = some (.lst (((as.take i).filter t).map f))) ⟨Same.new hD, upd_same⟩ (fun i H _ p => SqL.of (p.1 _ _ hsrc)) key done
  | true => exact lc_tup (K := K) (a := a) (xs := as.map e) (fun i H => Same H1 H ∧ H D = some (.lst (((as.take i).filter t).map f))) ⟨Same.new hD, upd_same⟩ (fun i H _ p => SqT.of (p.1 _ _ hsrc)) key done
/-- the same over a range -/
theorem lcR {lo : Int} {n : Nat} {j : Nat} {tt : TT} {te : TE} {vs : List Nat} {σ : L2.St} {H1 : Hp} {Qd : Addr → Hp → Prop} (t : Nat → Bool) (f : Nat → V)
    (hlen : n ≤ 1000000) (hw : ∀ x, wipe ((wipe σ vs).set j (some x)) vs = wipe σ vs)
    (hs : ∀ (x : Nat) (H' : Hp), x < n → Same H1 H' → ∀ R : Bool → Hp → Prop, (∀ H2, Same H' H2 → R (t x) H2) → tt ((wipe σ vs).set j (some (.int (lo + x)))) H' R)
    (he : ∀ (x : Nat) (H' : Hp), x < n → t x = true → Same H1 H' → ∀ R : VK, (∀ H2, Same H' H2 → R (f x) H2) → te ((wipe σ vs).set j (some (.int (lo + x)))) H' R)
    (fin : ∀ D H', H1 D = none → Same H1 H' → H' D = some (.lst (((List.range n).filter t).map f)) → Qd D H') :
    ∀ D, H1 D = none → LcOk (Itr lo n) (gName j) tt te vs σ H1 D (Qd D) := by
  intro D hD
  refine lc_range (lo := lo) (n := n) (fun i H => Same H1 H ∧ H D = some (.lst (((List.range i).filter t).map f))) ⟨Same.new hD, upd_same⟩ (fun x H hx p => ?_) (fun H p => fin D H hD p.1 p.2)
  refine ⟨hw _, hs x H hx p.1 _ fun H2 s2 => ?_⟩
  refine ite2 (fun c => ?y) (fun c => ?n)
  case y =>
    refine he x H2 hx c (p.1.trans s2) _ fun H3 s3 => ?_
    refine ⟨_, s3 _ _ (s2 _ _ p.2), ?_, Same.mut ((p.1.trans s2).trans s3) hD, ?_⟩
    · have h1 := List.length_filter_le t (List.range x)
      rw [List.length_range] at h1
      rw [List.length_map]
      exact Nat.lt_of_le_of_lt (Nat.le_trans h1 (Nat.le_trans (Nat.le_of_lt hx) hlen)) (by decide)
    · rw [upd_same, List.range_succ, List.filter_append, List.map_append]
      simp [List.filter_cons, c]
  case n =>
    refine ⟨p.1.trans s2, ?_⟩
    rw [s2 _ _ p.2, List.range_succ, List.filter_append, List.map_append]
    simp [List.filter_cons, c]
theorem filter_yes {α : Type} (l : List α) : l.filter (fun _ => true) = l := List.filter_eq_self.mpr fun _ _ => rfl
theorem kb_lt {K : PySem.W.Frag} (k : Kd) : PySem.W.kitAny K (.type k.nm) [.type "list", .type "tuple"] = some (decide (k = .lst ∨ k = .tup)) := by
  refine kitAny_cons (kit_ty (kb_list k)) (fun h => kitAny_cons (b := decide (k = .tup)) (kit_ty (kb_tuple k)) (fun h2 => ?_) (fun h2 => ?_)) (fun h => ?_)
  · have h1 : ¬ k = .lst := of_decide_eq_false h
    have h3 : ¬ k = .tup := of_decide_eq_false h2
    rw [kitAny_nil, decide_eq_false (fun q => q.elim h1 h3)]
  · exact decide_eq_true (.inr (of_decide_eq_true h2))
  · exact decide_eq_true (.inl (of_decide_eq_true h))
/-- sum of a list or a tuple of ints -/
def rSumS (K : PySem.W.Frag) : List V → Hp → VK → Prop := fun vs H Q => ∃ (a : Addr) (b : Bool) (ns : List Int), vs = [V.ref a] ∧ H a = some (sq b (ns.map V.int)) ∧ Q (.int ns.sum) H
theorem cr_sumS {X : Cx} (hc : X.calm = true) : CallR X (.builtin "sum") (rSumS X.K) := by
  intro pins s σ H vs us Q I r h
  obtain ⟨a, b, ns, rfl, hs, q⟩ := h
  cases b with
  | false => exact cr_sum hc pins s σ H _ us Q I r ⟨a, ns, rfl, SqL.of hs, q⟩
  | true =>
    obtain ⟨its, rv, hl, _⟩ := I.tuple (SqT.of (K := X.K) hs)
    rw [Vals.ref1 r]
    have hi := rv.ints
    obtain ⟨xs, e⟩ := hi.allInts.items
    have hn : PySem.numsOf (intItems xs).toList = ns := by rw [← e]; exact hi.numsOf
    rw [PySem.nums_intItems] at hn
    have hl : s.heap.IsTuple a its.toArray := hl
    rw [e] at hl
    refine PySem.W.ktm_sumG (I.ok.hd hc) hl fun h' tk t' hk => ?_
    rw [preSum_eq, List.take_of_length_le (by simp), hn]
    exact ⟨.int _, H, I.kept hk, ⟨_, rfl⟩, q⟩
theorem tC_i {v : V} {σ : L2.St} {H : Hp} {Q : VK} (h : Q v H) : tC v σ H Q := h
theorem tNil_i {σ : L2.St} {H : Hp} {Q : List V → Hp → Prop} (h : Q [] H) : tNil σ H Q := h
theorem tCons_i {ta : TE} {tr : TA} {σ : L2.St} {H : Hp} {Q : List V → Hp → Prop} (h : ta σ H fun x H1 => tr σ H1 fun xs H2 => Q (x :: xs) H2) : tCons ta tr σ H Q := h
theorem sq_or {K : PySem.W.Frag} {H : Hp} {p : Addr} {b : Bool} {xs : List V} (h : H p = some (sq b xs)) : SqL K H p xs ∨ SqT K H p xs := by
  cases b with
  | false => exact .inl (SqL.of h)
  | true => exact .inr (SqT.of h)
theorem ix_sq {K : PySem.W.Frag} {H : Hp} {p : Addr} {b : Bool} {xs : List V} {i : Int} {v : V} {Q : VK} (h : H p = some (sq b xs)) (hi : atI xs i = some v) (q : Q v H) : rIx K (.ref p) (.int i) H Q := by
  cases b with
  | false => exact .inl ⟨p, xs, i, v, rfl, rfl, SqL.of h, hi, q⟩
  | true => exact .inr (.inl ⟨p, xs, i, v, rfl, rfl, SqT.of h, hi, q⟩)
theorem kn_sq {K : PySem.W.Frag} {H : Hp} {p : Addr} {b : Bool} {xs : List V} (h : H p = some (sq b xs)) : Kn K H (.ref p) (if b then .tup else .lst) := by
  cases b with
  | false => exact kn_lst h
  | true => exact kn_tup h
/-- a slice of a list or a tuple: a new one, or the tuple itself -/
def rSlS (K : PySem.W.Frag) : V → Option Int → Option Int → Hp → VK → Prop := fun x lo hi H Q => rSlL K x lo hi H Q ∨ rSlT K x lo hi H Q
theorem sl_sq {X : Cx} : SlR X (rSlS X.K) := SlR.or sl_list sl_tup
def rLenS (K : PySem.W.Frag) : List V → Hp → VK → Prop := fun xs H Q => ∃ p ys, xs = [.ref p] ∧ (SqL K H p ys ∨ SqT K H p ys) ∧ Q (.int ys.length) H
def rListOf (K : PySem.W.Frag) : List V → Hp → VK → Prop := fun xs H Q => ∃ p ys, xs = [.ref p] ∧ (SqL K H p ys ∨ SqT K H p ys) ∧ ∀ l, H l = none → Q (.ref l) (upd H l (.lst ys))
def rTupleOf (K : PySem.W.Frag) : List V → Hp → VK → Prop := fun xs H Q => ∃ p ys, xs = [.ref p] ∧ ((SqL K H p ys ∧ ∀ l, H l = none → Q (.ref l) (upd H l (.tup ys))) ∨ (SqT K H p ys ∧ Q (.ref p) H))
theorem _root_.L2.Same.fr {p : Addr} {H H1 H2 : Hp} (s : Same H H1) (n : H p = none) (f : Fr p H1 H2) : Same H H2 := fun b o h => f b o (ne_of_none h n) (s b o h)
theorem _root_.L2.Same.mk {H H1 : Hp} {p : Addr} {o : HO} (s : Same H H1) (n : H1 p = none) : Same H (upd H1 p o) := s.mut (s.free n)
theorem Fr.mk {a : Addr} {H H1 : Hp} {p : Addr} {o u : HO} (s : Fr a H H1) (ha : H1 a = some u) (n : H1 p = none) : Fr a H (upd H1 p o) := s.mut (s.free ha n)
theorem Fr.same {a : Addr} {H H1 H2 : Hp} (f : Fr a H H1) (s : Same H1 H2) : Fr a H H2 := fun b o n h => s b o (f b o n h)
/-- sums of beginnings -/
def SS (ns : List Int) (i : Nat) : Int := (ns.take i).sum
theorem SS_zero (ns : List Int) : SS ns 0 = 0 := rfl
theorem SS_succ {ns : List Int} {i : Nat} {z : Int} (h : ns[i]? = some z) : SS ns (i + 1) = SS ns i + z := sum_take h
theorem SS_all (ns : List Int) : SS ns ns.length = ns.sum := by unfold SS; rw [List.take_length]
theorem get_lt {α : Type} {l : List α} {i : Nat} {x : α} (h : l[i]? = some x) : i < l.length := (List.getElem?_eq_some_iff.mp h).1
theorem get_of {α : Type} {l : List α} {i : Nat} (h : i < l.length) : ∃ x, l[i]? = some x ∧ x ∈ l := ⟨l[i], List.getElem?_eq_getElem h, List.getElem_mem h⟩
theorem SS_mono {ns : List Int} (h : ∀ n ∈ ns, 0 ≤ n) : ∀ {i j : Nat}, i ≤ j → SS ns i ≤ SS ns j := by
  intro i j hij
  induction j with
  | zero => have : i = 0 := by omega
            subst this; exact Int.le_refl _
  | succ j ih =>
    by_cases e : i = j + 1
    · subst e; exact Int.le_refl _
    · have h1 := ih (by omega)
      by_cases hj : j < ns.length
      · obtain ⟨z, hz, hm⟩ := get_of hj
        have := h z hm
        rw [SS_succ hz]; omega
      · have e2 : SS ns (j + 1) = SS ns j := by
          unfold SS; rw [List.take_of_length_le (by omega), List.take_of_length_le (by omega)]
        rw [e2]; exact h1
theorem SS_nn {ns : List Int} (h : ∀ n ∈ ns, 0 ≤ n) (i : Nat) : 0 ≤ SS ns i := SS_mono h (Nat.zero_le i)
theorem cut_to {xs : List V} {k : Nat} (h1 : k ≤ xs.length) : cutV xs none (some (k : Int)) = xs.take k := by
  unfold cutV
  rw [HT.sIx_none, HT.sIx_nat, Nat.min_eq_left h1]; rfl
theorem cut_from {xs : List V} {k : Nat} (h1 : k ≤ xs.length) : cutV xs (some (k : Int)) none = xs.drop k := by
  unfold cutV
  rw [HT.sIx_none, HT.sIx_nat, Nat.min_eq_left h1, List.take_of_length_le]
  rw [List.length_drop]; exact Nat.le_refl _
theorem cut_last {xs : List V} (h : 0 < xs.length) : cutV xs none (some (-1)) = xs.dropLast := by
  unfold cutV
  have e : HT.sIx xs.length xs.length (some (-1)) = xs.length - 1 := by
    show (if (-1 : Int) < 0 then ((-1 : Int) + (xs.length : Int)).toNat else min (-1 : Int).toNat xs.length) = xs.length - 1
    rw [if_pos (by decide)]; omega
  rw [HT.sIx_none, e, List.dropLast_eq_take]; rfl
/-- an int at a place that lies in the list -/
theorem at_int {ns : List Int} {i : Int} {j : Nat} {z : Int} (e : i = (j : Int)) (h : ns[j]? = some z) : atI (ns.map V.int) i = some (.int z) :=
  at_of e (by rw [List.getElem?_map, h]; rfl)
theorem at_end {xs : List V} {v : V} (h : xs.getLast? = some v) : atI xs (-1) = some v := by
  obtain ⟨ys, rfl⟩ := List.getLast?_eq_some_iff.mp h
  exact atI_last ys v
/-! ### == of lists and tuples of ints -/
def dI (b : Bool) (ns : List Int) : PyData := if b then .tuple (ns.map PyData.int) else .list (ns.map PyData.int)
theorem dpAll_ints {K : PySem.W.Frag} {H : Hp} : ∀ ns : List Int, DpAll K H (ns.map V.int) (ns.map PyData.int)
  | [] => .nil
  | n :: r => .cons (.int n) (dpAll_ints r)
theorem dp_ints {K : PySem.W.Frag} {H : Hp} {p : Addr} {b : Bool} {ns : List Int} (h : H p = some (sq b (ns.map V.int))) : Dp K H (.ref p) (dI b ns) := by
  cases b with
  | false => exact .lst (SqL.of h) (dpAll_ints ns)
  | true => exact .tup (SqT.of h) (dpAll_ints ns)
theorem lay_ints : ∀ ns : List Int, PyData.canLayAll0 (ns.map PyData.int) = true
  | [] => rfl
  | n :: r => by
    show (PyData.canLay0 (.int n) && PyData.canLayAll0 (r.map PyData.int)) = true
    rw [lay_ints r]; rfl
theorem dep_ints : ∀ ns : List Int, PyData.depthAll (ns.map PyData.int) = 0
  | [] => rfl
  | n :: r => by
    show max (PyData.depth (.int n)) (PyData.depthAll (r.map PyData.int)) = 0
    rw [dep_ints r]; rfl
theorem sh_ints (b : Bool) (ns : List Int) : SeqAt.shaped (dI b ns) = true := by
  unfold SeqAt.shaped
  cases b with
  | false =>
    show (PyData.canLayAll0 (ns.map PyData.int) && decide (PyData.depthAll (ns.map PyData.int) + 1 ≤ 64)) = true
    rw [lay_ints, dep_ints]; rfl
  | true =>
    show (PyData.canLayAll0 (ns.map PyData.int) && decide (PyData.depthAll (ns.map PyData.int) + 1 ≤ 64)) = true
    rw [lay_ints, dep_ints]; rfl
theorem eqvAll_ints : ∀ ns ms : List Int, PyData.eqvAll (ns.map PyData.int) (ms.map PyData.int) = decide (ns = ms)
  | [], [] => rfl
  | [], _ :: _ => rfl
  | _ :: _, [] => rfl
  | n :: r, m :: t => by
    show ((n == m) && PyData.eqvAll (r.map PyData.int) (t.map PyData.int)) = _
    rw [eqvAll_ints r t]
    by_cases h1 : n = m
    · by_cases h2 : r = t
      · subst h1 h2; simp
      · simp [h1, h2]
    · simp [h1]
theorem eqv_ints (b c : Bool) (ns ms : List Int) : PyData.eqv (dI b ns) (dI c ms) = (decide (b = c) && decide (ns = ms)) := by
  cases b <;> cases c
  · exact (eqvAll_ints ns ms).trans (by simp)
  · rfl
  · rfl
  · exact (eqvAll_ints ns ms).trans (by simp)
theorem eqI {K : PySem.W.Frag} {H : Hp} {p q : Addr} {b c : Bool} {ns ms : List Int} {Q : VK} (hp : H p = some (sq b (ns.map V.int))) (hq : H q = some (sq c (ms.map V.int))) (k : Q (.bl (decide (b = c) && decide (ns = ms))) H) : rEqD K (.ref p) (.ref q) H Q :=
  ⟨_, _, dp_ints hp, dp_ints hq, sh_ints _ _, sh_ints _ _, by rw [eqv_ints]; exact k⟩
theorem neI {K : PySem.W.Frag} {H : Hp} {p q : Addr} {b c : Bool} {ns ms : List Int} {Q : VK} (hp : H p = some (sq b (ns.map V.int))) (hq : H q = some (sq c (ms.map V.int))) (k : Q (.bl (!(decide (b = c) && decide (ns = ms)))) H) : rNeD K (.ref p) (.ref q) H Q :=
  ⟨_, _, dp_ints hp, dp_ints hq, sh_ints _ _, sh_ints _ _, by rw [eqv_ints]; exact k⟩
theorem sqF {xs : List V} : (HO.lst xs) = sq false xs := rfl
theorem sqTr {xs : List V} : (HO.tup xs) = sq true xs := rfl
theorem ix_ok {n : Nat} {i : Int} (h0 : 0 ≤ i) (h1 : i < n) : ixN n i = some i.toNat := by
  unfold ixN; rw [if_pos h0, if_pos h1]
theorem sum_nn : ∀ {l : List Int}, (∀ n ∈ l, 0 ≤ n) → 0 ≤ l.sum
  | [], _ => Int.le_refl 0
  | a :: r, h => by
    have h1 := h a List.mem_cons_self
    have h2 := sum_nn (l := r) fun n hn => h n (List.mem_cons_of_mem _ hn)
    rw [List.sum_cons]; omega
theorem sum_ge : ∀ {l : List Int} {z : Int}, (∀ n ∈ l, 0 ≤ n) → z ∈ l → z ≤ l.sum
  | a :: r, z, h, hz => by
    have h1 := h a List.mem_cons_self
    have h3 : ∀ n ∈ r, 0 ≤ n := fun n hn => h n (List.mem_cons_of_mem _ hn)
    have h2 := sum_nn h3
    rw [List.sum_cons]
    rcases List.mem_cons.mp hz with rfl | hz
    · omega
    · have := sum_ge h3 hz; omega
theorem mem_set_of {α : Type} {l : List α} {j : Nat} {x u : α} (h : u ∈ l.set j x) : u = x ∨ u ∈ l := by
  rcases List.mem_or_eq_of_mem_set h with h | h
  · exact .inr h
  · exact .inl h
theorem ix_head {α : Type} {x : α} {xs : List α} : ixN (x :: xs).length 0 = some 0 := ix_ok (Int.le_refl 0) (by rw [List.length_cons]; omega)
theorem at_head {α : Type} {x : α} {xs : List α} : atI (x :: xs) 0 = some x := by
  unfold atI; rw [ix_head]; rfl
theorem map_true {α : Type} (l : List α) : l.map (fun _ => V.bl true) = (l.map fun _ => true).map V.bl := by rw [List.map_map]; rfl
theorem all_yes {α : Type} (l : List α) : ((l.map fun _ => true).all id) = true := by
  rw [List.all_eq_true]
  intro x hx
  obtain ⟨_, _, rfl⟩ := List.mem_map.mp hx
  rfl

def top (i : Nat) : Stmt := PySem.Challenge.pw_splitseed_k57_shares.main.body.getD i (.Pass ⟨0, 0, 0, 0⟩)
abbrev s_NoNumber__init_ : Stmt := inClass (top 2) 0
abbrev s_NoShares__init_ : Stmt := inClass (top 3) 0
abbrev s_is_whole : Stmt := top 5
abbrev s_is_within : Stmt := top 6
abbrev s_need_shares : Stmt := top 10
abbrev s_shares_many : Stmt := top 11
abbrev s_parted_at : Stmt := top 12
abbrev s_share_at : Stmt := top 13
abbrev s_rest_in : Stmt := top 14
abbrev s_first_of : Stmt := top 15
abbrev s_number_of : Stmt := top 16
abbrev s_cell : Stmt := top 18
abbrev s_well : Stmt := top 19
abbrev s_draw : Stmt := top 20
abbrev s_far : Stmt := top 21
abbrev s_whole : Stmt := top 22
abbrev s_shares : Stmt := top 23
abbrev s_firsts : Stmt := top 24
abbrev s_number_right : Stmt := top 25
abbrev s_law : Stmt := top 26
theorem sc_is_whole : FnScope ["thing"] ["thing"] (defScope s_is_whole) := ⟨rfl, rfl, rfl, by decide +kernel, rfl, by decide +kernel, by decide +kernel⟩
theorem sc_is_within : FnScope ["thing", "low", "high"] ["thing", "low", "high"] (defScope s_is_within) := ⟨rfl, rfl, rfl, by decide +kernel, rfl, by decide +kernel, by decide +kernel⟩
theorem sc_need_shares : FnScope ["thing", "share"] ["thing"] (defScope s_need_shares) := ⟨rfl, rfl, rfl, by decide +kernel, rfl, by decide +kernel, by decide +kernel⟩
theorem sc_shares_many : FnScope ["shares"] ["shares"] (defScope s_shares_many) := ⟨rfl, rfl, rfl, by decide +kernel, rfl, by decide +kernel, by decide +kernel⟩
theorem sc_parted_at : FnScope ["shares", "number", "at"] ["shares", "number"] (defScope s_parted_at) := ⟨rfl, rfl, rfl, by decide +kernel, rfl, by decide +kernel, by decide +kernel⟩
theorem sc_share_at : FnScope ["shares", "number"] ["shares", "number"] (defScope s_share_at) := ⟨rfl, rfl, rfl, by decide +kernel, rfl, by decide +kernel, by decide +kernel⟩
theorem sc_rest_in : FnScope ["shares", "number"] ["shares", "number"] (defScope s_rest_in) := ⟨rfl, rfl, rfl, by decide +kernel, rfl, by decide +kernel, by decide +kernel⟩
theorem sc_first_of : FnScope ["shares", "at"] ["shares", "at"] (defScope s_first_of) := ⟨rfl, rfl, rfl, by decide +kernel, rfl, by decide +kernel, by decide +kernel⟩
theorem sc_number_of : FnScope ["shares", "at", "rest", "first"] ["shares", "at", "rest"] (defScope s_number_of) := ⟨rfl, rfl, rfl, by decide +kernel, rfl, by decide +kernel, by decide +kernel⟩
theorem sc_cell : FnScope ["_law_script", "_law_k"] ["_law_script", "_law_k"] (defScope s_cell) := ⟨rfl, rfl, rfl, by decide +kernel, rfl, by decide +kernel, by decide +kernel⟩
theorem sc_well : FnScope ["_law_cell_here"] ["_law_cell_here"] (defScope s_well) := ⟨rfl, rfl, rfl, by decide +kernel, rfl, by decide +kernel, by decide +kernel⟩
theorem sc_draw : FnScope ["_law_well_here", "_law_many", "_law_number"] ["_law_well_here", "_law_many"] (defScope s_draw) := ⟨rfl, rfl, rfl, by decide +kernel, rfl, by decide +kernel, by decide +kernel⟩
theorem sc_far : FnScope ["_law_well_here", "_law_many", "_law_number"] ["_law_well_here", "_law_many"] (defScope s_far) := ⟨rfl, rfl, rfl, by decide +kernel, rfl, by decide +kernel, by decide +kernel⟩
theorem sc_whole : FnScope ["_law_thing"] ["_law_thing"] (defScope s_whole) := ⟨rfl, rfl, rfl, by decide +kernel, rfl, by decide +kernel, by decide +kernel⟩
theorem sc_shares : FnScope ["_law_well_here", "_law_many", "_law_found", "_law_k", "_law_share"] ["_law_well_here"] (defScope s_shares) := ⟨rfl, rfl, rfl, by decide +kernel, rfl, by decide +kernel, by decide +kernel⟩
theorem sc_firsts : FnScope ["_law_shares_here", "_law_found", "_law_share"] ["_law_shares_here"] (defScope s_firsts) := ⟨rfl, rfl, rfl, by decide +kernel, rfl, by decide +kernel, by decide +kernel⟩
theorem sc_number_right : FnScope ["_law_shares_here", "_law_firsts_here", "_law_number", "_law_at", "_law_rest", "_law_found", "_law_k", "_law_one"] ["_law_shares_here", "_law_firsts_here", "_law_number"] (defScope s_number_right) := ⟨rfl, rfl, rfl, by decide +kernel, rfl, by decide +kernel, by decide +kernel⟩
theorem sc_law : FnScope ["_law_script", "_law_k", "_law_well_here", "_law_shares_here", "_law_handed", "_law_firsts_here", "_law_total", "_law_at", "_law_told", "_law_one", "_law_some", "_law_counts", "_law_number"] ["_law_script"] (defScope s_law) := ⟨rfl, rfl, rfl, by decide +kernel, rfl, by decide +kernel, by decide +kernel⟩
structure Txt (K : PySem.W.Frag) (mg : Str → Option Value) where
  f_is_whole : Addr
  d_is_whole : FuncData
  g_is_whole : mg "is_whole" = some (.ref f_is_whole)
  k_is_whole : PySem.W.keepIn K (.ref f_is_whole) = true
  F_is_whole : Fun K "is_whole" "is_whole" s_is_whole f_is_whole d_is_whole
  b_is_whole : Binds K d_is_whole ["thing"] []
  f_is_within : Addr
  d_is_within : FuncData
  g_is_within : mg "is_within" = some (.ref f_is_within)
  k_is_within : PySem.W.keepIn K (.ref f_is_within) = true
  F_is_within : Fun K "is_within" "is_within" s_is_within f_is_within d_is_within
  b_is_within : Binds K d_is_within ["thing", "low", "high"] []
  f_need_shares : Addr
  d_need_shares : FuncData
  g_need_shares : mg "need_shares" = some (.ref f_need_shares)
  k_need_shares : PySem.W.keepIn K (.ref f_need_shares) = true
  F_need_shares : Fun K "need_shares" "need_shares" s_need_shares f_need_shares d_need_shares
  b_need_shares : Binds K d_need_shares ["thing"] []
  f_shares_many : Addr
  d_shares_many : FuncData
  g_shares_many : mg "shares_many" = some (.ref f_shares_many)
  k_shares_many : PySem.W.keepIn K (.ref f_shares_many) = true
  F_shares_many : Fun K "shares_many" "shares_many" s_shares_many f_shares_many d_shares_many
  b_shares_many : Binds K d_shares_many ["shares"] []
  f_parted_at : Addr
  d_parted_at : FuncData
  g_parted_at : mg "parted_at" = some (.ref f_parted_at)
  k_parted_at : PySem.W.keepIn K (.ref f_parted_at) = true
  F_parted_at : Fun K "parted_at" "parted_at" s_parted_at f_parted_at d_parted_at
  b_parted_at : Binds K d_parted_at ["shares", "number"] []
  f_share_at : Addr
  d_share_at : FuncData
  g_share_at : mg "share_at" = some (.ref f_share_at)
  k_share_at : PySem.W.keepIn K (.ref f_share_at) = true
  F_share_at : Fun K "share_at" "share_at" s_share_at f_share_at d_share_at
  b_share_at : Binds K d_share_at ["shares", "number"] []
  f_rest_in : Addr
  d_rest_in : FuncData
  g_rest_in : mg "rest_in" = some (.ref f_rest_in)
  k_rest_in : PySem.W.keepIn K (.ref f_rest_in) = true
  F_rest_in : Fun K "rest_in" "rest_in" s_rest_in f_rest_in d_rest_in
  b_rest_in : Binds K d_rest_in ["shares", "number"] []
  f_first_of : Addr
  d_first_of : FuncData
  g_first_of : mg "first_of" = some (.ref f_first_of)
  k_first_of : PySem.W.keepIn K (.ref f_first_of) = true
  F_first_of : Fun K "first_of" "first_of" s_first_of f_first_of d_first_of
  b_first_of : Binds K d_first_of ["shares", "at"] []
  f_number_of : Addr
  d_number_of : FuncData
  g_number_of : mg "number_of" = some (.ref f_number_of)
  k_number_of : PySem.W.keepIn K (.ref f_number_of) = true
  F_number_of : Fun K "number_of" "number_of" s_number_of f_number_of d_number_of
  b_number_of : Binds K d_number_of ["shares", "at", "rest"] []
  f_cell : Addr
  d_cell : FuncData
  g_cell : mg "_law_cell" = some (.ref f_cell)
  k_cell : PySem.W.keepIn K (.ref f_cell) = true
  F_cell : Fun K "_law_cell" "_law_cell" s_cell f_cell d_cell
  b_cell : Binds K d_cell ["_law_script", "_law_k"] []
  f_well : Addr
  d_well : FuncData
  g_well : mg "_law_well" = some (.ref f_well)
  k_well : PySem.W.keepIn K (.ref f_well) = true
  F_well : Fun K "_law_well" "_law_well" s_well f_well d_well
  b_well : Binds K d_well ["_law_cell_here"] []
  f_draw : Addr
  d_draw : FuncData
  g_draw : mg "_law_draw" = some (.ref f_draw)
  k_draw : PySem.W.keepIn K (.ref f_draw) = true
  F_draw : Fun K "_law_draw" "_law_draw" s_draw f_draw d_draw
  b_draw : Binds K d_draw ["_law_well_here", "_law_many"] []
  f_far : Addr
  d_far : FuncData
  g_far : mg "_law_far" = some (.ref f_far)
  k_far : PySem.W.keepIn K (.ref f_far) = true
  F_far : Fun K "_law_far" "_law_far" s_far f_far d_far
  b_far : Binds K d_far ["_law_well_here", "_law_many"] []
  f_whole : Addr
  d_whole : FuncData
  g_whole : mg "_law_whole" = some (.ref f_whole)
  k_whole : PySem.W.keepIn K (.ref f_whole) = true
  F_whole : Fun K "_law_whole" "_law_whole" s_whole f_whole d_whole
  b_whole : Binds K d_whole ["_law_thing"] []
  f_shares : Addr
  d_shares : FuncData
  g_shares : mg "_law_shares" = some (.ref f_shares)
  k_shares : PySem.W.keepIn K (.ref f_shares) = true
  F_shares : Fun K "_law_shares" "_law_shares" s_shares f_shares d_shares
  b_shares : Binds K d_shares ["_law_well_here"] []
  f_firsts : Addr
  d_firsts : FuncData
  g_firsts : mg "_law_firsts" = some (.ref f_firsts)
  k_firsts : PySem.W.keepIn K (.ref f_firsts) = true
  F_firsts : Fun K "_law_firsts" "_law_firsts" s_firsts f_firsts d_firsts
  b_firsts : Binds K d_firsts ["_law_shares_here"] []
  f_number_right : Addr
  d_number_right : FuncData
  g_number_right : mg "_law_number_right" = some (.ref f_number_right)
  k_number_right : PySem.W.keepIn K (.ref f_number_right) = true
  F_number_right : Fun K "_law_number_right" "_law_number_right" s_number_right f_number_right d_number_right
  b_number_right : Binds K d_number_right ["_law_shares_here", "_law_firsts_here", "_law_number"] []
  f_law : Addr
  d_law : FuncData
  g_law : mg "law" = some (.ref f_law)
  k_law : PySem.W.keepIn K (.ref f_law) = true
  F_law : Fun K "law" "law" s_law f_law d_law
  b_law : Binds K d_law ["_law_script"] []
  n_len : mg "len" = none
  n_max : mg "max" = none
  n_min : mg "min" = none
  n_sum : mg "sum" = none
  n_all : mg "all" = none
  n_isinstance : mg "isinstance" = none
  n_int : mg "int" = none
  n_bool : mg "bool" = none
  n_list : mg "list" = none
  n_tuple : mg "tuple" = none
  n_range : mg "range" = none
  c_MOST_SHARES : ∃ t, mg "MOST_SHARES" = some (.int (60) t)
  c_MOST_SHARE : ∃ t, mg "MOST_SHARE" = some (.int (1000000) t)
local macro_rules | `(tactic| tm_at "hp") => `(tactic| first
  | assumption
  | exact upd_same
  | exact Eq.trans (upd_ne (by tm_at "ne")) (by tm_at "hp")
  | exact Same.g (by assumption) (by tm_at "hp")
  | exact Fr.g (by assumption) (by tm_at "ne") (by tm_at "hp"))
local macro_rules | `(tactic| tm_at "ne") => `(tactic| first
  | assumption
  | exact Ne.symm (by assumption)
  | exact ne_nn (by assumption) (by tm_at "hp")
  | exact Ne.symm (ne_nn (by assumption) (by tm_at "hp")))
/-! one step of a reading that asks for nothing new -/
set_option hygiene false in
local macro_rules | `(tactic| tm_at "g1") => `(tactic| first
  | with_reducible refine tC_i ?_
  | with_reducible refine tCons_i ?_
  | with_reducible refine tNil_i ?_
  | refine ⟨_, rfl, ?_⟩
  | refine ⟨_, _, rfl, rfl, ?_⟩
  | refine ⟨rfl, ?_⟩
  | refine ⟨Or.inl ⟨by omega, by omega⟩, ?_⟩
  | refine ⟨Or.inr ⟨by omega, by omega⟩, ?_⟩
  | refine ⟨(by decide : (0 : Int) < _), ?_⟩
  | refine ⟨(⟨by decide, by decide +kernel⟩ : CDivW _ _), ?_⟩
  | refine ⟨(⟨by decide, by decide, by decide⟩ : CPow _ _), ?_⟩
  | refine ⟨Or.inl ⟨rfl, _, SqL.of (by tm_at "hp")⟩, ?_⟩
  | refine ⟨_, _, _, _, rfl, rfl, SqL.of (by tm_at "hp"), (by tm_at "at"), ?_⟩
  | refine ⟨_, _, _, _, rfl, rfl, (by tm_at "hp"), (by tm_at "ix"), ?_⟩
  | refine ⟨_, _, rfl, Or.inl (SqL.of (by tm_at "hp")), ?_⟩
  | refine ⟨_, _, rfl, Or.inr (SqT.of (by tm_at "hp")), ?_⟩
  | refine ⟨_, _, rfl, sq_or (by tm_at "hp"), ?_⟩
  | refine ⟨_, _, rfl, ?_⟩
  | ((with_reducible show rIx _ (V.ref _) (V.int _) _ _); refine ix_sq (by tm_at "hp") (by tm_at "at") ?_))
local macro_rules | `(tactic| tm_at "at") => `(tactic| first
  | with_reducible exact at_head
  | ((with_reducible show atI (_ :: _) _ = _); rfl)
  | ((with_reducible show atI (List.set _ _ _) _ = _); rfl))
local macro_rules | `(tactic| tm_at "ix") => `(tactic| first
  | with_reducible exact ix_head
  | ((with_reducible show ixN (List.length (_ :: _)) _ = _); rfl)
  | ((with_reducible show ixN (List.length (List.set _ _ _)) _ = _); rfl))
local macro_rules | `(tactic| tm_at "go") => `(tactic| repeat tm_at "g1")
/-! a test that the facts decide -/
local macro_rules | `(tactic| tm_at "bd") => `(tactic| first
  | rfl
  | assumption
  | (exact decide_eq_true (by omega))
  | (exact decide_eq_false (by omega))
  | (simp only [decide_eq_true_eq, decide_eq_false_iff_not, Bool.not_eq_true', Bool.not_eq_false', Bool.not_eq_eq_eq_not, Bool.not_true, Bool.not_false, V.int.injEq, List.length_map, reduceCtorEq]; omega))
local macro_rules | `(tactic| tm_at "if") => `(tactic| first
  | refine ifT (by tm_at "bd") ?_
  | refine ifF (by tm_at "bd") ?_)
section
variable {P : Program} {w : World} {K : PySem.W.Frag} {mg : Str → Option Value} {base : Heap}


def sp_whole (K : PySem.W.Frag) : Sp := fun vs H Q _ => ∃ (x : V) (k : Kd), vs = [x] ∧ Kn K H x k ∧ Q (.bl (isI x)) H
theorem ok_is_whole (T : Txt K mg) : FnOk P w K mg base CX0 1 T.f_is_whole T.d_is_whole ["thing"] (sp_whole K) := by
  refine T.F_is_whole.ok sc_is_whole (fun vs H Q E h => ?_) (fun cdv A outer s H vs Q E hr h => ?_)
  · obtain ⟨x, k, rfl, ty, q⟩ := h; rfl
  obtain ⟨x, k, rfl, ty, q⟩ := h
  refine ⟨_, (pss_one (ps_ret (pe_and (pe_callB call_isi (by rfl) T.n_isinstance (by decide +kernel) (pa_cons (pv 0) (pa_cons (pe_bltn (v := .ty "int") (by rfl) T.n_int (by decide +kernel) rfl) pa_nil))) (pe_one (pe_not (pe_callB call_isi (by rfl) T.n_isinstance (by decide +kernel) (pa_cons (pv 0) (pa_cons (pe_bltn (v := .ty "bool") (by rfl) T.n_bool (by decide +kernel) rfl) pa_nil)))))))), ?_⟩
  refine ⟨_, rfl, _, _, _, _, _, rfl, ClsV.ty _, ty, kit_ty (kb_int k), _, rfl, ?_⟩
  rw [ty.isI] at q
  by_cases h1 : k = .int ∨ k = .bl
  · refine ifT (decide_eq_true h1) ?_
    refine ⟨_, rfl, _, _, _, _, _, rfl, ClsV.ty _, ty, kit_ty (kb_bool k), _, rfl, ?_⟩
    rcases h1 with rfl | rfl <;> exact q
  · refine ifF (decide_eq_false h1) ?_
    have h2 : k ≠ .int := fun e => h1 (.inl e)
    rw [decide_eq_false h2] at q
    exact q
def sp_within (K : PySem.W.Frag) : Sp := fun vs H Q _ => ∃ (x : V) (k : Kd) (lo hi : Int), vs = [x, .int lo, .int hi] ∧ Kn K H x k ∧ Q (.bl (wb x lo hi)) H
theorem ok_is_within (T : Txt K mg) : FnOk P w K mg base CX0 2 T.f_is_within T.d_is_within ["thing", "low", "high"] (sp_within K) := by
  refine T.F_is_within.ok sc_is_within (fun vs H Q E h => ?_) (fun cdv A outer s H vs Q E hr h => ?_)
  · obtain ⟨x, k, lo, hi, rfl, ty, q⟩ := h; rfl
  obtain ⟨x, k, lo, hi, rfl, ty, q⟩ := h
  refine ⟨_, (pss_one (ps_ret (pe_and (pe_call (ok_is_whole T) (hr.mono (by decide)) rfl T.g_is_whole T.k_is_whole T.b_is_whole .nil pass0 (pa_cons (pv 0) pa_nil)) (pe_one (pe_chain op_le op_le (pv 1) (pv 0) (pv 2)))))), ?_⟩
  refine ⟨_, rfl, x, k, rfl, ty, _, rfl, ?_⟩
  cases x with
  | int i =>
    refine ifT rfl ?_
    refine ⟨_, rfl, _, rfl, _, _, rfl, rfl, _, rfl, ?_⟩
    refine ite2 (fun c => ?_) (fun c => ?_)
    · refine ⟨_, rfl, _, _, rfl, rfl, ?_⟩
      have e : wb (.int i) lo hi = decide (i ≤ hi) := by show (decide (lo ≤ i) && decide (i ≤ hi)) = _; rw [c]; rfl
      rw [e] at q; exact q
    · have e : wb (.int i) lo hi = false := by show (decide (lo ≤ i) && decide (i ≤ hi)) = _; rw [Bool.eq_false_iff.mpr c]; rfl
      rw [e] at q; exact q
  | _ => exact ifF rfl q


/-! ### the law's draws -/
def sp_cell (K : PySem.W.Frag) : Sp := fun vs H Q _ => ∃ (a : Addr) (ns : List Int) (k : Int), vs = [.ref a, .int k] ∧ SqL K H a (ns.map V.int) ∧ 0 ≤ k ∧ ∀ c, Q (.int c) H
theorem ok_cell (T : Txt K mg) : FnOk P w K mg base CX0 1 T.f_cell T.d_cell ["_law_script", "_law_k"] (sp_cell K) := by
  refine T.F_cell.ok sc_cell (fun vs H Q E h => ?_) (fun cdv A outer s H vs Q E hr h => ?_)
  · obtain ⟨a, ns, k, rfl, hS, h0, q⟩ := h; rfl
  obtain ⟨a, ns, k, rfl, hS, h0, q⟩ := h
  refine ⟨_, (pss_cons (ps_if (pt_cmpR op_lt (pv 1) (pe_callB call_len_seq (by rfl) T.n_len (by decide +kernel) (pa_cons (pv 0) pa_nil)) (nomark _)) (pss_one (ps_ret (pe_ix ix_list (pv 0) (pv 1) (fun _ _ => rfl)))) pss_nil)
      (pss_one (ps_ret (pe_op op_add (pe_op op_mul pe_int (pv 1)) pe_int)))), ?_⟩
  refine ⟨_, rfl, _, rfl, a, _, rfl, .inl hS, _, _, rfl, rfl, _, rfl, ?_⟩
  refine ite2 (fun c => ?_) (fun c => ?_)
  · rw [List.length_map] at c
    have c := of_decide_eq_true c
    have hk : ns[k.toNat]? = some (ns[k.toNat]'(by omega)) := List.getElem?_eq_getElem _
    refine ⟨_, rfl, _, rfl, a, _, _, _, rfl, rfl, hS, at_of (j := k.toNat) (by omega) (by rw [List.getElem?_map, hk]; rfl), q _⟩
  · tm_at "go"
    exact q _
def sp_well : Sp := fun vs H Q _ => ∃ c : Int, vs = [.int c] ∧ ∀ p x y z, H p = none → Q (.ref p) (upd H p (wl x y z))
theorem ok_well (T : Txt K mg) : FnOk P w K mg base CX0 1 T.f_well T.d_well ["_law_cell_here"] (sp_well) := by
  refine T.F_well.ok sc_well (fun vs H Q E h => ?_) (fun cdv A outer s H vs Q E hr h => ?_)
  · obtain ⟨c, rfl, q⟩ := h; rfl
  obtain ⟨c, rfl, q⟩ := h
  refine ⟨_, (pss_cons (ps_if (pt_cmpR op_ge (pv 0) (pe_op op_pow pe_int pe_int) (nomark _)) (pss_one (ps_ret (pe_lst (pa_cons (pv 0) (pa_cons (pe_op op_mod (pv 0) pe_int) (pa_cons pe_int pa_nil)))))) pss_nil)
      (pss_one (ps_ret (pe_lst (pa_cons pe_int (pa_cons (pe_op op_mod (pv 0) pe_int) (pa_cons pe_int pa_nil))))))), ?_⟩
  tm_at "go"
  refine ite2 (fun c => ?_) (fun c => ?_)
  · tm_at "go"
    exact ⟨Nat.le_of_ble_eq_true rfl, fun p np => q p _ _ _ np⟩
  · tm_at "go"
    exact ⟨Nat.le_of_ble_eq_true rfl, fun p np => q p _ _ _ np⟩
def sp_draw : Sp := fun vs H Q _ => ∃ (a : Addr) (n x y z : Int), vs = [.ref a, .int n] ∧ H a = some (wl x y z) ∧ 0 < n ∧ n < 2 ^ 200 ∧
  ∀ r x' y' z', 0 ≤ r → r < n → Q (.int r) (upd H a (wl x' y' z'))
theorem log_of {n : Int} (h0 : 0 < n) (h : n < 2 ^ 200) : n.natAbs.log2 < 9000 := by
  have h1 : n.natAbs < 2 ^ 200 := by omega
  exact Nat.lt_of_lt_of_le ((Nat.log2_lt (by omega)).mpr h1) (by decide)
theorem ok_draw (T : Txt K mg) : FnOk P w K mg base CX0 1 T.f_draw T.d_draw ["_law_well_here", "_law_many"] (sp_draw) := by
  refine T.F_draw.ok sc_draw (fun vs H Q E h => ?_) (fun cdv A outer s H vs Q E hr h => ?_)
  · obtain ⟨a, n, x, y, z, rfl, hw, hn, hl, q⟩ := h; rfl
  obtain ⟨a, n, x, y, z, rfl, hw, hn, hl, q⟩ := h
  refine ⟨_, (pss_cons (ps_if (pt_cmpR op_gt (pe_ix ix_list (pv 0) pe_int (fun _ _ => rfl)) pe_int (nomark _)) (pss_cons (ps_set (i := 2) sc_draw.nd rfl (Or.inl rfl) (pe_op op_mod (pe_ix ix_list (pv 0) pe_int (fun _ _ => rfl)) (pv 1)))
      (pss_cons (ps_asg (pe_op op_fdivW (pe_ix ix_list (pv 0) pe_int (fun _ _ => rfl)) (pv 1)) (pg_sub (pv 0) pe_int set_list))
      (pss_one (ps_ret (pv 2))))) pss_nil)
      (pss_cons (ps_asg (pe_op op_add (pe_ix ix_list (pv 0) pe_int (fun _ _ => rfl)) pe_int) (pg_sub (pv 0) pe_int set_list))
      (pss_cons (ps_set (i := 2) sc_draw.nd rfl (Or.inl rfl) (pe_op op_mod (pe_op op_add (pe_op op_add (pe_op op_mul (pe_ix ix_list (pv 0) pe_int (fun _ _ => rfl)) pe_int) (pe_op op_mul pe_int (pe_ix ix_list (pv 0) pe_int (fun _ _ => rfl)))) pe_int) pe_int))
      (pss_cons (ps_set (i := 2) sc_draw.nd rfl (Or.inl rfl) (pe_op op_mod (pe_op op_add (pe_op op_add (pe_op op_mul (pv 2) (pv 2)) (pe_op op_mul pe_int (pe_ix ix_list (pv 0) pe_int (fun _ _ => rfl)))) pe_int) pe_int))
      (pss_one (ps_ret (pe_op op_mod (pe_op op_mod (pe_op op_mul (pv 2) (pv 2)) pe_int) (pv 1)))))))), ?_⟩
  tm_at "go"
  refine ite2 (fun c => ?_) (fun c => ?_)
  · tm_at "go"
    refine ⟨hn, ?_⟩
    tm_at "go"
    refine ⟨⟨hn, log_of hn hl⟩, ?_⟩
    tm_at "go"
    exact q _ _ _ _ (Int.emod_nonneg _ (by omega)) (Int.emod_lt_of_pos _ hn)
  · tm_at "go"
    exact ⟨hn, q _ _ _ _ (Int.emod_nonneg _ (by omega)) (Int.emod_lt_of_pos _ hn)⟩
def sp_far : Sp := fun vs H Q _ => ∃ (a : Addr) (n x y z : Int), vs = [.ref a, .int n] ∧ H a = some (wl x y z) ∧ 0 < n ∧
  ∀ r x' y' z' H', 0 ≤ r → r < n → H' a = some (wl x' y' z') → Fr a H H' → Q (.int r) H'
theorem ok_far (T : Txt K mg) : FnOk P w K mg base CX0 2 T.f_far T.d_far ["_law_well_here", "_law_many"] (sp_far) := by
  refine T.F_far.ok sc_far (fun vs H Q E h => ?_) (fun cdv A outer s H vs Q E hr h => ?_)
  · obtain ⟨a, n, x, y, z, rfl, hw, hn, q⟩ := h; rfl
  obtain ⟨a, n, x, y, z, rfl, hw, hn, q⟩ := h
  refine ⟨_, (pss_cons (ps_set (i := 2) sc_far.nd rfl (Or.inl rfl) (pe_call (ok_draw T) (hr.mono (by decide)) rfl T.g_draw T.k_draw T.b_draw .nil pass0 (pa_cons (pv 0) (pa_cons pe_int pa_nil))))
      (pss_cons (ps_set (i := 2) sc_far.nd rfl (Or.inl rfl) (pe_op op_add (pe_op op_mul (pv 2) pe_int) (pe_call (ok_draw T) (hr.mono (by decide)) rfl T.g_draw T.k_draw T.b_draw .nil pass0 (pa_cons (pv 0) (pa_cons pe_int pa_nil)))))
      (pss_cons (ps_set (i := 2) sc_far.nd rfl (Or.inl rfl) (pe_op op_add (pe_op op_mul (pv 2) pe_int) (pe_call (ok_draw T) (hr.mono (by decide)) rfl T.g_draw T.k_draw T.b_draw .nil pass0 (pa_cons (pv 0) (pa_cons pe_int pa_nil)))))
      (pss_one (ps_ret (pe_op op_mod (pv 2) (pv 1))))))), ?_⟩
  tm_at "go"
  refine ⟨_, _, _, _, _, rfl, (by tm_at "hp"), (by decide), (by decide), fun r1 x1 y1 z1 h1 g1 => ?_⟩
  tm_at "go"
  refine ⟨_, _, _, _, _, rfl, (by tm_at "hp"), (by decide), (by decide), fun r2 x2 y2 z2 h2 g2 => ?_⟩
  tm_at "go"
  refine ⟨_, _, _, _, _, rfl, (by tm_at "hp"), (by decide), (by decide), fun r3 x3 y3 z3 h3 g3 => ?_⟩
  tm_at "go"
  exact ⟨hn, q _ _ _ _ _ (Int.emod_nonneg _ (by omega)) (Int.emod_lt_of_pos _ hn) upd_same ((Fr.put.trans Fr.put).trans Fr.put)⟩


end
section
variable {P : Program} {w : World} {K : PySem.W.Frag} {mg : Str → Option Value} {base : Heap}

/-! ### shares -/
structure Shs (ns : List Int) : Prop where
  l1 : 1 ≤ ns.length
  l2 : ns.length ≤ 60
  bd : ∀ n ∈ ns, 0 ≤ n ∧ n ≤ 1000000
  sm : ns.sum ≠ 0
def sp_need : Sp := fun vs H Q _ => ∃ (p : Addr) (b : Bool) (ns : List Int), vs = [.ref p] ∧ H p = some (sq b (ns.map V.int)) ∧ Shs ns ∧ ∀ H', Same H H' → Q .non H'
theorem ok_need_shares (T : Txt K mg) : FnOk P w K mg base CX0 3 T.f_need_shares T.d_need_shares ["thing"] (sp_need) := by
  refine T.F_need_shares.ok sc_need_shares (fun vs H Q E h => ?_) (fun cdv A outer s H vs Q E hr h => ?_)
  · obtain ⟨p, b, ns, rfl, hp, hs, q⟩ := h; rfl
  obtain ⟨p, b, ns, rfl, hp, hs, q⟩ := h
  refine ⟨_, (pss_cons (ps_if (PW.pt (pw_or (pt_not (pt_val (pe_callB call_isiT (by rfl) T.n_isinstance (by decide +kernel) (pa_cons (pv 0) (pa_cons (pe_tup (pa_cons (pe_bltn (v := .ty "list") (by rfl) T.n_list (by decide +kernel) rfl) (pa_cons (pe_bltn (v := .ty "tuple") (by rfl) T.n_tuple (by decide +kernel) rfl) pa_nil))) pa_nil))))) (pw_or1 (pt_not (pt_chain op_le op_le pe_int (pe_callB call_len_seq (by rfl) T.n_len (by decide +kernel) (pa_cons (pv 0) pa_nil)) (pe_glob (v := .int (60)) rfl T.c_MOST_SHARES.choose_spec ⟨_, rfl⟩)))))) (pss_one ps_never) pss_nil)
      (pss_one (ps_if (PW.pt (pw_or (pt_not (pt_val (pe_callB (cr_all rfl) (by rfl) T.n_all (by decide +kernel) (pa_cons (pe_lc (own := [("share", 1)]) (g := gName 1) (tt := tYes) rfl sc_need_shares.nd (pi_seq (pv 0)) (blkOk_by (own := [("share", 1)]) (N := ["thing", "share"]) (sc := defScope s_need_shares) (by decide +kernel)) (fun _ _ _ _ _ => (pg_name (i := 1) sc_need_shares.nd rfl (Or.inl rfl))) (fun _ _ _ _ _ => pts_nil) (fun _ _ _ _ _ => (pe_call (ok_is_within T) (hr.mono (by decide)) rfl T.g_is_within T.k_is_within T.b_is_within .nil pass0 (pa_cons (pv 1) (pa_cons pe_int (pa_cons (pe_glob (v := .int (1000000)) rfl T.c_MOST_SHARE.choose_spec ⟨_, rfl⟩) pa_nil)))))) pa_nil)))) (pw_or1 (pt_cmpR op_eq (pe_callB (cr_sumS rfl) (by rfl) T.n_sum (by decide +kernel) (pa_cons (pv 0) pa_nil)) pe_int (nomark _))))) (pss_one ps_never) pss_nil))), ?_⟩
  have l1 := hs.l1
  have l2 := hs.l2
  tm_at "go"
  refine ⟨Nat.le_of_ble_eq_true rfl, fun t nt => ?_⟩
  refine ⟨_, _, _, _, _, _, rfl, upd_same, .cons (.ty _) (.cons (.ty _) .nil), kn_sq (by tm_at "hp"), kb_lt _, ?_⟩
  tm_at "go"
  refine ifF (by cases b <;> rfl) ?_
  tm_at "go"
  tm_at "if"
  tm_at "go"
  tm_at "if"
  have s1 : Same H (upd H t (.tup [V.ty "list", V.ty "tuple"])) := Same.new nt
  refine ⟨_, rfl, p, b, _, rfl, s1.g hp, ?_⟩
  refine lcP (e := V.int) (as := ns) (fun _ => true) (fun n => V.bl (wb (.int n) 0 1000000)) (s1.g hp) (by omega) (fun _ => rfl) (fun x H' _ _ R k => k _ (Same.refl _)) (fun x H' hx _ s' R k => ?_) (fun D H' nD s' hD => ?_)
  · tm_at "go"
    exact ⟨_, _, _, _, rfl, kn_int _, k _ (Same.refl _)⟩
  rw [filter_yes] at hD
  refine ⟨_, ns.map fun n => wb (.int n) 0 1000000, rfl, SqL.of (by rw [hD, List.map_map]; rfl), ?_⟩
  have ha : ((ns.map fun n => wb (.int n) 0 1000000).all id) = true := by
    rw [List.all_eq_true]
    intro x hx
    obtain ⟨n, hn, rfl⟩ := List.mem_map.mp hx
    have := hs.bd n hn
    show (decide (0 ≤ n) && decide (n ≤ 1000000)) = true
    rw [decide_eq_true this.1, decide_eq_true this.2]; rfl
  rw [ha]
  tm_at "go"
  refine ⟨p, b, ns, rfl, s'.g (s1.g hp), ?_⟩
  tm_at "go"
  refine ifF ?_ (q _ (s1.trans s'))
  have := hs.sm
  simpa using this
def sp_many : Sp := fun vs H Q _ => ∃ (p : Addr) (b : Bool) (ns : List Int), vs = [.ref p] ∧ H p = some (sq b (ns.map V.int)) ∧ Shs ns ∧ ∀ H', Same H H' → Q (.int ns.sum) H'
theorem ok_shares_many (T : Txt K mg) : FnOk P w K mg base CX0 4 T.f_shares_many T.d_shares_many ["shares"] (sp_many) := by
  refine T.F_shares_many.ok sc_shares_many (fun vs H Q E h => ?_) (fun cdv A outer s H vs Q E hr h => ?_)
  · obtain ⟨p, b, ns, rfl, hp, hs, q⟩ := h; rfl
  obtain ⟨p, b, ns, rfl, hp, hs, q⟩ := h
  refine ⟨_, (pss_cons (ps_expr (pe_call (ok_need_shares T) (hr.mono (by decide)) rfl T.g_need_shares T.k_need_shares T.b_need_shares .nil pass0 (pa_cons (pv 0) pa_nil)))
      (pss_one (ps_ret (pe_callB (cr_sumS rfl) (by rfl) T.n_sum (by decide +kernel) (pa_cons (pv 0) pa_nil))))), ?_⟩
  refine ⟨_, rfl, p, b, ns, rfl, hp, hs, fun H' s' => ?_⟩
  exact ⟨_, rfl, p, b, ns, rfl, s'.g hp, q _ s'⟩
structure Loc (ns : List Int) (n : Int) (i : Nat) : Prop where
  lt : i < ns.length
  lo : SS ns i ≤ n
  hi : n < SS ns (i + 1)
def sp_parted : Sp := fun vs H Q _ => ∃ (p : Addr) (b : Bool) (ns : List Int) (n : Int), vs = [.ref p, .int n] ∧ H p = some (sq b (ns.map V.int)) ∧ Shs ns ∧ 0 ≤ n ∧ n < ns.sum ∧
  ∀ H' t i, Loc ns n i → Same H H' → H' t = some (.tup [.int (i : Nat), .int (n - SS ns i)]) → Q (.ref t) H'
theorem ok_parted_at (T : Txt K mg) : FnOk P w K mg base CX0 5 T.f_parted_at T.d_parted_at ["shares", "number"] (sp_parted) := by
  refine T.F_parted_at.ok sc_parted_at (fun vs H Q E h => ?_) (fun cdv A outer s H vs Q E hr h => ?_)
  · obtain ⟨p, b, ns, n, rfl, hp, hs, h0, h1, q⟩ := h; rfl
  obtain ⟨p, b, ns, n, rfl, hp, hs, h0, h1, q⟩ := h
  refine ⟨_, (pss_cons (ps_if (pt_not (pt_val (pe_call (ok_is_within T) (hr.mono (by decide)) rfl T.g_is_within T.k_is_within T.b_is_within .nil pass0 (pa_cons (pv 1) (pa_cons pe_int (pa_cons (pe_op op_sub (pe_call (ok_shares_many T) (hr.mono (by decide)) rfl T.g_shares_many T.k_shares_many T.b_shares_many .nil pass0 (pa_cons (pv 0) pa_nil)) pe_int) pa_nil)))))) (pss_one ps_never) pss_nil)
      (pss_cons (ps_set (i := 2) sc_parted_at.nd rfl (Or.inl rfl) pe_int)
      (pss_cons (ps_while PassesOwn.never (pt_cmpR op_ge (pv 1) (pe_ix ix_seq (pv 0) (pv 2) (fun _ _ => rfl)) (nomark _))
      (pss_cons (ps_aug (i := 1) sc_parted_at.nd rfl (Or.inl rfl) (pe_ix ix_seq (pv 0) (pv 2) (fun _ _ => rfl)) ip_sub)
      (pss_one (ps_aug (i := 2) sc_parted_at.nd rfl (Or.inl rfl) pe_int ip_add))))
      (pss_one (ps_ret (pe_tup (pa_cons (pv 2) (pa_cons (pv 1) pa_nil)))))))), ?_⟩
  have hnn : ∀ n ∈ ns, 0 ≤ n := fun n hn => (hs.bd n hn).1
  tm_at "go"
  refine ⟨p, b, ns, rfl, hp, hs, fun H1 s1 => ?_⟩
  tm_at "go"
  refine ⟨_, _, _, _, rfl, kn_int _, ?_⟩
  tm_at "go"
  refine ifF ?_ ?_
  · show (!(decide (0 ≤ n) && decide (n ≤ ns.sum - 1))) = false
    rw [decide_eq_true h0, decide_eq_true (by omega)]; rfl
  refine while_by (fun σ H' => ∃ i : Nat, σ = [some (.ref p), some (.int (n - SS ns i)), some (.int i)] ∧ Same H H' ∧ i < ns.length ∧ SS ns i ≤ n) (fun σ _ => match σ with | [_, _, some (.int i)] => ns.length - i.toNat | _ => 0)
    ⟨0, by rw [SS_zero, Int.sub_zero]; rfl, s1, hs.l1, by rw [SS_zero]; exact h0⟩ ?_ ?_
  · rintro σ H' ⟨i, rfl, s2, hi, hlo⟩
    obtain ⟨z, hz, hm⟩ := get_of hi
    have e := SS_succ hz
    have hp2 := s2.g hp
    tm_at "go"
    refine ix_sq hp2 (at_int rfl hz) ?_
    tm_at "go"
    refine ite2 (fun c => ?_) (fun c => ?_)
    · have c := of_decide_eq_true c
      tm_at "go"
      refine ix_sq hp2 (at_int rfl hz) ?_
      tm_at "go"
      have hl : i + 1 < ns.length := by
        apply Classical.byContradiction
        intro hc
        have e2 : i + 1 = ns.length := by omega
        rw [e2, SS_all] at e
        omega
      refine ⟨⟨i + 1, ?_, s2, hl, by omega⟩, ?_⟩
      · have e3 : n - SS ns i - z = n - SS ns (i + 1) := by omega
        show [some (V.ref p), some (V.int (n - SS ns i - z)), some (V.int ((i : Int) + 1))] = _
        rw [e3]; rfl
      · show ns.length - ((i : Int) + 1).toNat < ns.length - (i : Int).toNat
        omega
    · have c := of_decide_eq_false (Bool.eq_false_iff.mpr c)
      tm_at "go"
      refine ⟨Nat.le_of_ble_eq_true rfl, fun t nt => ?_⟩
      exact q _ t i ⟨hi, hlo, by omega⟩ (s2.mk nt) upd_same
  · intro σ H Q Q' hq h
    obtain ⟨v, e1, v2, e2, v3, e3, h⟩ := h
    refine ⟨v, e1, v2, e2, v3, e3, ?_⟩
    rcases h with ⟨p, xs, i, v, r1, r2, r3, r4, i1, j1, r5, r6, k, r7, h⟩ | ⟨p, xs, i, v, r1, r2, r3, r4, i1, j1, r5, r6, k, r7, h⟩ | ⟨z, i, c, r1, r2, r3, r4, i1, j1, r5, r6, k, r7, h⟩
    · exact .inl ⟨p, xs, i, v, r1, r2, r3, r4, i1, j1, r5, r6, k, r7, hq _ _ h⟩
    · exact .inr (.inl ⟨p, xs, i, v, r1, r2, r3, r4, i1, j1, r5, r6, k, r7, hq _ _ h⟩)
    · exact .inr (.inr ⟨z, i, c, r1, r2, r3, r4, i1, j1, r5, r6, k, r7, hq _ _ h⟩)
def sp_share : Sp := fun vs H Q _ => ∃ (p : Addr) (b : Bool) (ns : List Int) (n : Int), vs = [.ref p, .int n] ∧ H p = some (sq b (ns.map V.int)) ∧ Shs ns ∧ 0 ≤ n ∧ n < ns.sum ∧
  ∀ H' i, Loc ns n i → Same H H' → Q (.int (i : Nat)) H'
theorem ok_share_at (T : Txt K mg) : FnOk P w K mg base CX0 6 T.f_share_at T.d_share_at ["shares", "number"] (sp_share) := by
  refine T.F_share_at.ok sc_share_at (fun vs H Q E h => ?_) (fun cdv A outer s H vs Q E hr h => ?_)
  · obtain ⟨p, b, ns, n, rfl, hp, hs, h0, h1, q⟩ := h; rfl
  obtain ⟨p, b, ns, n, rfl, hp, hs, h0, h1, q⟩ := h
  refine ⟨_, (pss_one (ps_ret (pe_ix ix_tup (pe_call (ok_parted_at T) (hr.mono (by decide)) rfl T.g_parted_at T.k_parted_at T.b_parted_at .nil pass0 (pa_cons (pv 0) (pa_cons (pv 1) pa_nil))) pe_int (fun _ _ => rfl)))), ?_⟩
  tm_at "go"
  refine ⟨p, b, ns, n, rfl, hp, hs, h0, h1, fun H' t i hl s' ht => ?_⟩
  exact ⟨_, _, _, _, rfl, rfl, SqT.of ht, rfl, q _ i hl s'⟩
def sp_rest : Sp := fun vs H Q _ => ∃ (p : Addr) (b : Bool) (ns : List Int) (n : Int), vs = [.ref p, .int n] ∧ H p = some (sq b (ns.map V.int)) ∧ Shs ns ∧ 0 ≤ n ∧ n < ns.sum ∧
  ∀ H' i, Loc ns n i → Same H H' → Q (.int (n - SS ns i)) H'
theorem ok_rest_in (T : Txt K mg) : FnOk P w K mg base CX0 6 T.f_rest_in T.d_rest_in ["shares", "number"] (sp_rest) := by
  refine T.F_rest_in.ok sc_rest_in (fun vs H Q E h => ?_) (fun cdv A outer s H vs Q E hr h => ?_)
  · obtain ⟨p, b, ns, n, rfl, hp, hs, h0, h1, q⟩ := h; rfl
  obtain ⟨p, b, ns, n, rfl, hp, hs, h0, h1, q⟩ := h
  refine ⟨_, (pss_one (ps_ret (pe_ix ix_tup (pe_call (ok_parted_at T) (hr.mono (by decide)) rfl T.g_parted_at T.k_parted_at T.b_parted_at .nil pass0 (pa_cons (pv 0) (pa_cons (pv 1) pa_nil))) pe_int (fun _ _ => rfl)))), ?_⟩
  tm_at "go"
  refine ⟨p, b, ns, n, rfl, hp, hs, h0, h1, fun H' t i hl s' ht => ?_⟩
  exact ⟨_, _, _, _, rfl, rfl, SqT.of ht, rfl, q _ i hl s'⟩
def sp_first : Sp := fun vs H Q _ => ∃ (p : Addr) (b : Bool) (ns : List Int) (i : Nat), vs = [.ref p, .int (i : Nat)] ∧ H p = some (sq b (ns.map V.int)) ∧ Shs ns ∧ i < ns.length ∧
  ∀ H', Same H H' → Q (.int (SS ns i)) H'
theorem ok_first_of (T : Txt K mg) : FnOk P w K mg base CX0 4 T.f_first_of T.d_first_of ["shares", "at"] (sp_first) := by
  refine T.F_first_of.ok sc_first_of (fun vs H Q E h => ?_) (fun cdv A outer s H vs Q E hr h => ?_)
  · obtain ⟨p, b, ns, i, rfl, hp, hs, hi, q⟩ := h; rfl
  obtain ⟨p, b, ns, i, rfl, hp, hs, hi, q⟩ := h
  refine ⟨_, (pss_cons (ps_expr (pe_call (ok_need_shares T) (hr.mono (by decide)) rfl T.g_need_shares T.k_need_shares T.b_need_shares .nil pass0 (pa_cons (pv 0) pa_nil)))
      (pss_cons (ps_if (pt_not (pt_val (pe_call (ok_is_within T) (hr.mono (by decide)) rfl T.g_is_within T.k_is_within T.b_is_within .nil pass0 (pa_cons (pv 1) (pa_cons pe_int (pa_cons (pe_op op_sub (pe_callB call_len_seq (by rfl) T.n_len (by decide +kernel) (pa_cons (pv 0) pa_nil)) pe_int) pa_nil)))))) (pss_one ps_never) pss_nil)
      (pss_one (ps_ret (pe_callB (cr_sumS rfl) (by rfl) T.n_sum (by decide +kernel) (pa_cons (pe_slice sl_sq (pv 0) po_none (po_some (pv 1))) pa_nil)))))), ?_⟩
  refine ⟨_, rfl, p, b, ns, rfl, hp, hs, fun H1 s1 => ?_⟩
  have hp1 := s1.g hp
  tm_at "go"
  refine ⟨_, _, _, _, rfl, kn_int _, ?_⟩
  tm_at "go"
  refine ifF ?_ ?_
  · show (!(decide (0 ≤ (i : Int)) && decide ((i : Int) ≤ ((ns.map V.int).length : Nat) - 1))) = false
    rw [List.length_map, decide_eq_true (by omega), decide_eq_true (by omega)]; rfl
  refine ⟨_, rfl, _, rfl, _, rfl, ?_⟩
  have ec : cutV (ns.map V.int) none (some (i : Int)) = (ns.take i).map V.int := by
    rw [cut_to (by rw [List.length_map]; omega), List.map_take]
  cases b with
  | false =>
    refine .inl ⟨p, _, rfl, SqL.of hp1, fun t nt => ?_⟩
    exact ⟨t, false, ns.take i, rfl, by rw [ec]; exact upd_same, q _ (s1.mk nt)⟩
  | true =>
    refine .inr ⟨p, _, rfl, SqT.of hp1, ?_, fun t nt => ?_⟩
    · rintro ⟨_, h⟩
      rw [HT.sIx_nat, List.length_map] at h
      omega
    exact ⟨t, true, ns.take i, rfl, by rw [ec]; exact upd_same, q _ (s1.mk nt)⟩
def sp_number : Sp := fun vs H Q _ => ∃ (p : Addr) (b : Bool) (ns : List Int) (i : Nat) (r z : Int), vs = [.ref p, .int (i : Nat), .int r] ∧ H p = some (sq b (ns.map V.int)) ∧ Shs ns ∧ ns[i]? = some z ∧ 0 ≤ r ∧ r < z ∧
  ∀ H', Same H H' → Q (.int (SS ns i + r)) H'
theorem ok_number_of (T : Txt K mg) : FnOk P w K mg base CX0 5 T.f_number_of T.d_number_of ["shares", "at", "rest"] (sp_number) := by
  refine T.F_number_of.ok sc_number_of (fun vs H Q E h => ?_) (fun cdv A outer s H vs Q E hr h => ?_)
  · obtain ⟨p, b, ns, i, r, z, rfl, hp, hs, hz, h0, h1, q⟩ := h; rfl
  obtain ⟨p, b, ns, i, r, z, rfl, hp, hs, hz, h0, h1, q⟩ := h
  refine ⟨_, (pss_cons (ps_set (i := 3) sc_number_of.nd rfl (Or.inl rfl) (pe_call (ok_first_of T) (hr.mono (by decide)) rfl T.g_first_of T.k_first_of T.b_first_of .nil pass0 (pa_cons (pv 0) (pa_cons (pv 1) pa_nil))))
      (pss_cons (ps_if (pt_not (pt_val (pe_call (ok_is_within T) (hr.mono (by decide)) rfl T.g_is_within T.k_is_within T.b_is_within .nil pass0 (pa_cons (pv 2) (pa_cons pe_int (pa_cons (pe_op op_sub (pe_ix ix_seq (pv 0) (pv 1) (fun _ _ => rfl)) pe_int) pa_nil)))))) (pss_one ps_never) pss_nil)
      (pss_one (ps_ret (pe_op op_add (pv 3) (pv 2)))))), ?_⟩
  tm_at "go"
  refine ⟨p, b, ns, i, rfl, hp, hs, get_lt hz, fun H1 s1 => ?_⟩
  tm_at "go"
  refine ix_sq (s1.g hp) (at_int rfl hz) ?_
  tm_at "go"
  refine ⟨_, _, _, _, rfl, kn_int _, ?_⟩
  tm_at "go"
  refine ifF ?_ ?_
  · show (!(decide (0 ≤ r) && decide (r ≤ z - 1))) = false
    rw [decide_eq_true h0, decide_eq_true (by omega)]; rfl
  tm_at "go"
  exact q _ s1

end
section
variable {P : Program} {w : World} {K : PySem.W.Frag} {mg : Str → Option Value} {base : Heap}

theorem ok_whole (T : Txt K mg) : FnOk P w K mg base CX0 1 T.f_whole T.d_whole ["_law_thing"] (sp_whole K) := by
  refine T.F_whole.ok sc_whole (fun vs H Q E h => ?_) (fun cdv A outer s H vs Q E hr h => ?_)
  · obtain ⟨x, k, rfl, ty, q⟩ := h; rfl
  obtain ⟨x, k, rfl, ty, q⟩ := h
  refine ⟨_, (pss_one (ps_ret (pe_and (pe_callB call_isi (by rfl) T.n_isinstance (by decide +kernel) (pa_cons (pv 0) (pa_cons (pe_bltn (v := .ty "int") (by rfl) T.n_int (by decide +kernel) rfl) pa_nil))) (pe_one (pe_not (pe_callB call_isi (by rfl) T.n_isinstance (by decide +kernel) (pa_cons (pv 0) (pa_cons (pe_bltn (v := .ty "bool") (by rfl) T.n_bool (by decide +kernel) rfl) pa_nil)))))))), ?_⟩
  refine ⟨_, rfl, _, _, _, _, _, rfl, ClsV.ty _, ty, kit_ty (kb_int k), _, rfl, ?_⟩
  rw [ty.isI] at q
  by_cases h1 : k = .int ∨ k = .bl
  · refine ifT (decide_eq_true h1) ?_
    refine ⟨_, rfl, _, _, _, _, _, rfl, ClsV.ty _, ty, kit_ty (kb_bool k), _, rfl, ?_⟩
    rcases h1 with rfl | rfl <;> exact q
  · refine ifF (decide_eq_false h1) ?_
    have h2 : k ≠ .int := fun e => h1 (.inl e)
    rw [decide_eq_false h2] at q
    exact q
/-! ### the law's own lists -/
def sp_firsts (K : PySem.W.Frag) : Sp := fun vs H Q _ => ∃ (p : Addr) (ns : List Int), vs = [.ref p] ∧ H p = some (.lst (ns.map V.int)) ∧ ns.length ≤ 1000 ∧
  ∀ H' t, Same H H' → H t = none → H' t = some (.lst (((List.range (ns.length + 1)).map (SS ns)).map V.int)) → Q (.ref t) H'
theorem ok_firsts (T : Txt K mg) : FnOk P w K mg base CX0 1 T.f_firsts T.d_firsts ["_law_shares_here"] (sp_firsts K) := by
  refine T.F_firsts.ok sc_firsts (fun vs H Q E h => ?_) (fun cdv A outer s H vs Q E hr h => ?_)
  · obtain ⟨p, ns, rfl, hp, hl, q⟩ := h; rfl
  obtain ⟨p, ns, rfl, hp, hl, q⟩ := h
  refine ⟨_, (pss_cons (ps_set (i := 1) sc_firsts.nd rfl (Or.inl rfl) (pe_lst (pa_cons pe_int pa_nil)))
      (pss_cons (ps_for PassesOwn.never rfl (pi_list (pv 0)) (pg_name (i := 2) sc_firsts.nd rfl (Or.inl rfl))
      (pss_one (ps_expr (pe_bm PySem.F.plainAttrs_list PySem.F.slot_list_append PySem.F.type_list_append mt_append (pv 1) (pa_cons (pe_op op_add (pe_ix ix_list (pv 1) (pe_un un_neg pe_int) (fun _ _ => rfl)) (pv 2)) pa_nil)))))
      (pss_one (ps_ret (pv 1))))), ?_⟩
  refine ⟨Nat.le_of_ble_eq_true rfl, fun t nt => ?_⟩
  have s1 : Same H (upd H t (.lst [.int 0])) := Same.new nt
  refine ⟨_, rfl, p, rfl, ⟨_, SqL.of (s1.g hp)⟩, for_list (K := K) (a := p) (xs := ns.map V.int) (fun i σ H' => ∃ v, σ = [some (.ref p), some (.ref t), v] ∧ Same H H' ∧ H' t = some (.lst (((List.range (i + 1)).map (SS ns)).map V.int)))
    ⟨none, rfl, s1, upd_same⟩ (fun i σ H' _ ⟨_, _, s', _⟩ => SqL.of (s'.g hp)) ?_ ?_⟩
  · rintro i y σ H' hy ⟨v, rfl, s', ht⟩
    obtain ⟨z, hz, rfl⟩ : ∃ z, ns[i]? = some z ∧ y = V.int z := by
      rw [List.getElem?_map] at hy
      cases e : ns[i]? with
      | none => rw [e] at hy; cases hy
      | some z => rw [e] at hy; exact ⟨z, rfl, (Option.some.inj hy).symm⟩
    have hi := get_lt hz
    tm_at "go"
    refine ⟨t, _, _, _, rfl, rfl, SqL.of ht, at_end (v := .int (SS ns i)) ?_, ?_⟩
    · rw [List.range_succ, List.map_append, List.map_append]; simp
    tm_at "go"
    refine ⟨t, _, _, rfl, rfl, ht, ?_, ?_⟩
    · rw [List.length_map, List.length_map, List.length_range]; exact Nat.lt_of_le_of_lt (show i + 1 ≤ 1001 by omega) (by decide)
    · refine ⟨_, rfl, s'.mut nt, ?_⟩
      rw [upd_same, List.range_succ (n := i + 1), List.map_append, List.map_append]
      simp [SS_succ hz]
  · rintro σ H' ⟨v, rfl, s', ht⟩
    rw [List.length_map] at ht
    exact ⟨_, rfl, q _ t s' nt ht⟩
def sp_shares : Sp := fun vs H Q _ => ∃ (a : Addr) (x y z : Int), vs = [.ref a] ∧ H a = some (wl x y z) ∧
  ∀ H' t ns x' y' z', Shs ns → H t = none → t ≠ a → H' t = some (.lst (ns.map V.int)) → H' a = some (wl x' y' z') → Fr a H H' → Q (.ref t) H'
theorem ok_shares (T : Txt K mg) : FnOk P w K mg base CX0 2 T.f_shares T.d_shares ["_law_well_here"] (sp_shares) := by
  refine T.F_shares.ok sc_shares (fun vs H Q E h => ?_) (fun cdv A outer s H vs Q E hr h => ?_)
  · obtain ⟨a, x, y, z, rfl, hw, q⟩ := h; rfl
  obtain ⟨a, x, y, z, rfl, hw, q⟩ := h
  refine ⟨_, (C8.pss_cut (ps_set (i := 1) sc_shares.nd rfl (Or.inl rfl) (pe_ix ix_list (pe_lst (pa_cons (pe_op op_add pe_int (pe_call (ok_draw T) (hr.mono (by decide)) rfl T.g_draw T.k_draw T.b_draw .nil pass0 (pa_cons (pv 0) (pa_cons pe_int pa_nil)))) (pa_cons pe_int pa_nil))) (pe_callTy call_int1 (by rfl) T.n_int (by decide +kernel) (pa_cons (pe_cmpR op_eq (pe_call (ok_draw T) (hr.mono (by decide)) rfl T.g_draw T.k_draw T.b_draw .nil pass0 (pa_cons (pv 0) (pa_cons pe_int pa_nil))) pe_int (nomark _)) pa_nil)) (fun _ _ => rfl)))
      (pss_cons (ps_set (i := 2) sc_shares.nd rfl (Or.inl rfl) (pe_lst pa_nil))
      (C8.pss_cut (ps_for PassesOwn.never rfl (pi_range1 (by rfl) T.n_range (pa_cons (pv 1) pa_nil)) (pg_name (i := 3) sc_shares.nd rfl (Or.inl rfl))
      (pss_one (ps_expr (pe_bm PySem.F.plainAttrs_list PySem.F.slot_list_append PySem.F.type_list_append mt_append (pv 2) (pa_cons (pe_ix ix_list (pe_lst (pa_cons pe_int (pa_cons pe_int (pa_cons (pe_call (ok_draw T) (hr.mono (by decide)) rfl T.g_draw T.k_draw T.b_draw .nil pass0 (pa_cons (pv 0) (pa_cons pe_int pa_nil))) (pa_cons pe_int (pa_cons (pe_call (ok_draw T) (hr.mono (by decide)) rfl T.g_draw T.k_draw T.b_draw .nil pass0 (pa_cons (pv 0) (pa_cons pe_int pa_nil))) pa_nil)))))) (pe_call (ok_draw T) (hr.mono (by decide)) rfl T.g_draw T.k_draw T.b_draw .nil pass0 (pa_cons (pv 0) (pa_cons pe_int pa_nil))) (fun _ _ => rfl)) pa_nil)))))
      (C8.pss_cut (ps_if (pt_cmpR op_eq (pe_callB (cr_sum rfl) (by rfl) T.n_sum (by decide +kernel) (pa_cons (pv 2) pa_nil)) pe_int (nomark _)) (pss_one (ps_asg pe_int (pg_sub (pv 2) (pe_call (ok_draw T) (hr.mono (by decide)) rfl T.g_draw T.k_draw T.b_draw .nil pass0 (pa_cons (pv 0) (pa_cons (pv 1) pa_nil))) set_list))) pss_nil)
      (C8.pss_cut (ps_if (pt_cmpR op_eq (pe_call (ok_draw T) (hr.mono (by decide)) rfl T.g_draw T.k_draw T.b_draw .nil pass0 (pa_cons (pv 0) (pa_cons pe_int pa_nil))) pe_int (nomark _)) (pss_cons (ps_setLc (i := 2) (own := [("_law_share", 4)]) (g := gName 4) (tt := tYes) rfl sc_shares.nd rfl rfl (sw_true rfl rfl rfl (by decide +kernel)) (pi_list (pv 2)) (blkOk_by (own := [("_law_share", 4)]) (N := ["_law_well_here", "_law_many", "_law_found", "_law_k", "_law_share"]) (sc := defScope s_shares) (by decide +kernel)) (fun _ _ _ _ _ => (pg_name (i := 4) sc_shares.nd rfl (Or.inl rfl))) (fun _ _ _ _ _ => pts_nil) (fun _ _ _ _ _ => (pe_op op_mod (pv 4) pe_int)))
      (pss_one (ps_asg (pe_op op_add (pe_ix ix_list (pv 2) pe_int (fun _ _ => rfl)) pe_int) (pg_sub (pv 2) pe_int set_list)))) pss_nil)
      (pss_one (ps_ret (pv 2)))))))), ?_⟩
  refine ⟨fun σ H' => ∃ (m x y z : Int), σ = [some (.ref a), some (.int m), none, none, none] ∧ 1 ≤ m ∧ m ≤ 60 ∧ H' a = some (wl x y z) ∧ Fr a H H', ?_, ?_⟩
  · tm_at "go"
    refine ⟨_, _, _, _, _, rfl, (by tm_at "hp"), (by decide), (by decide), fun r1 x1 y1 z1 h1 g1 => ?_⟩
    tm_at "go"
    refine ⟨Nat.le_of_ble_eq_true rfl, fun l nl => ?_⟩
    tm_at "go"
    refine ⟨_, _, _, _, _, rfl, (by tm_at "hp"), (by decide), (by decide), fun r2 x2 y2 z2 h2 g2 => ?_⟩
    tm_at "go"
    refine .inr ⟨_, rfl, ?_⟩
    have f : Fr a H (upd (upd (upd H a (wl x1 y1 z1)) l (.lst [.int (1 + r1), .int 60])) a (wl x2 y2 z2)) := ((Fr.put (a := a) (H := H)).mk upd_same nl).trans Fr.put
    by_cases c : r2 = 0
    · subst c
      refine ⟨l, _, 1, .int 60, rfl, rfl, SqL.of (by tm_at "hp"), rfl, ?_⟩
      exact ⟨60, x2, y2, z2, rfl, by decide, by decide, upd_same, f⟩
    · have e : decide (V.int r2 = V.int 0) = false := decide_eq_false (fun z => c (V.int.inj z))
      refine ⟨l, _, 0, .int (1 + r1), rfl, by rw [e]; rfl, SqL.of (by tm_at "hp"), rfl, ?_⟩
      exact ⟨1 + r1, x2, y2, z2, rfl, by omega, by omega, upd_same, f⟩
  rintro σ H1 ⟨m, x1, y1, z1, rfl, m1, m2, hw1, f1⟩
  refine ⟨Nat.le_of_ble_eq_true rfl, fun t nt => ?_⟩
  have hta : t ≠ a := Ne.symm (ne_nn nt hw1)
  have ht0 : H t = none := f1.free hw1 nt
  have f2 : Fr a H (upd H1 t (.lst [])) := f1.mk hw1 nt
  refine ⟨fun σ H' => ∃ (ns : List Int) (v : Option V) (x y z : Int), σ = [some (.ref a), some (.int m), some (.ref t), v, none] ∧ (ns.length : Int) = m ∧ (∀ n ∈ ns, 0 ≤ n ∧ n ≤ 1000000) ∧ H' t = some (.lst (ns.map V.int)) ∧ H' a = some (wl x y z) ∧ Fr a H H', ?_, ?_⟩
  · refine ⟨_, rfl, m, rfl, by omega, by omega, for_range (lo := 0) (n := m.toNat) (fun i σ H' => ∃ (ns : List Int) (v : Option V) (x y z : Int), σ = [some (.ref a), some (.int m), some (.ref t), v, none] ∧ ns.length = i ∧ (∀ n ∈ ns, 0 ≤ n ∧ n ≤ 1000000) ∧ H' t = some (.lst (ns.map V.int)) ∧ H' a = some (wl x y z) ∧ Fr a H H')
      ⟨[], none, x1, y1, z1, rfl, rfl, (fun _ h => nomatch h), upd_same, by tm_at "hp", f2⟩ ?_ ?_⟩
    · rintro i σ H2 hi ⟨ns, v, x2, y2, z2, rfl, hl, hb, ht, hw2, f3⟩
      tm_at "go"
      refine ⟨_, _, _, _, _, rfl, hw2, (by decide), (by decide), fun r1 x3 y3 z3 h1 g1 => ?_⟩
      tm_at "go"
      refine ⟨_, _, _, _, _, rfl, upd_same, (by decide), (by decide), fun r2 x4 y4 z4 h2 g2 => ?_⟩
      tm_at "go"
      refine ⟨Nat.le_of_ble_eq_true rfl, fun l nl => ?_⟩
      have hla : a ≠ l := ne_nn nl upd_same
      have htl : t ≠ l := ne_nn nl (by tm_at "hp")
      tm_at "go"
      refine ⟨_, _, _, _, _, rfl, (by tm_at "hp"), (by decide), (by decide), fun r3 x5 y5 z5 h3 g3 => ?_⟩
      tm_at "go"
      have fin : ∀ n, 0 ≤ n → n ≤ 1000000 → ∃ (ns' : List Int) (v : Option V) (x y z : Int), ([some (V.ref a), some (V.int m), some (V.ref t), some (V.int (0 + (i : Int))), none] : L2.St) = [some (.ref a), some (.int m), some (.ref t), v, none] ∧ ns'.length = i + 1 ∧ (∀ n ∈ ns', 0 ≤ n ∧ n ≤ 1000000) ∧
          (upd (upd (upd (upd (upd H2 a (wl x3 y3 z3)) a (wl x4 y4 z4)) l (.lst [.int 0, .int 1, .int r1, .int 1000000, .int r2])) a (wl x5 y5 z5)) t (.lst (ns.map V.int ++ [.int n]))) t = some (.lst (ns'.map V.int)) ∧
          (upd (upd (upd (upd (upd H2 a (wl x3 y3 z3)) a (wl x4 y4 z4)) l (.lst [.int 0, .int 1, .int r1, .int 1000000, .int r2])) a (wl x5 y5 z5)) t (.lst (ns.map V.int ++ [.int n]))) a = some (wl x y z) ∧
          Fr a H (upd (upd (upd (upd (upd H2 a (wl x3 y3 z3)) a (wl x4 y4 z4)) l (.lst [.int 0, .int 1, .int r1, .int 1000000, .int r2])) a (wl x5 y5 z5)) t (.lst (ns.map V.int ++ [.int n]))) := by
        intro n n0 n1
        refine ⟨ns ++ [n], _, x5, y5, z5, rfl, by rw [List.length_append, hl]; rfl, fun u hu => ?_, by rw [upd_same, List.map_append]; rfl, by rw [upd_ne (Ne.symm hta)]; exact upd_same, ?_⟩
        · rcases List.mem_append.mp hu with h | h
          · exact hb u h
          · have : u = n := by simpa using h
            subst this; exact ⟨n0, n1⟩
        · exact ((((f3.trans Fr.put).trans Fr.put).mk upd_same nl).trans Fr.put).mut ht0
      have hz : (ns.map V.int).length < sizeLine := by rw [List.length_map, hl]; exact Nat.lt_of_le_of_lt (show i ≤ 60 by omega) (by decide)
      have ht2 : (upd (upd (upd (upd H2 a (wl x3 y3 z3)) a (wl x4 y4 z4)) l (.lst [.int 0, .int 1, .int r1, .int 1000000, .int r2])) a (wl x5 y5 z5)) t = some (.lst (ns.map V.int)) := by tm_at "hp"
      have cs : r3 = 0 ∨ r3 = 1 ∨ r3 = 2 ∨ r3 = 3 ∨ r3 = 4 := by omega
      rcases cs with rfl | rfl | rfl | rfl | rfl
      · exact ⟨l, _, 0, .int 0, rfl, rfl, SqL.of (by tm_at "hp"), rfl, t, _, _, rfl, rfl, ht2, hz, fin _ (by decide) (by decide)⟩
      · exact ⟨l, _, 1, .int 1, rfl, rfl, SqL.of (by tm_at "hp"), rfl, t, _, _, rfl, rfl, ht2, hz, fin _ (by decide) (by decide)⟩
      · exact ⟨l, _, 2, .int r1, rfl, rfl, SqL.of (by tm_at "hp"), rfl, t, _, _, rfl, rfl, ht2, hz, fin _ h1 (by omega)⟩
      · exact ⟨l, _, 3, .int 1000000, rfl, rfl, SqL.of (by tm_at "hp"), rfl, t, _, _, rfl, rfl, ht2, hz, fin _ (by decide) (by decide)⟩
      · exact ⟨l, _, 4, .int r2, rfl, rfl, SqL.of (by tm_at "hp"), rfl, t, _, _, rfl, rfl, ht2, hz, fin _ h2 (by omega)⟩
    · rintro σ H2 ⟨ns, v, x2, y2, z2, rfl, hl, hb, ht, hw2, f3⟩
      exact ⟨ns, v, x2, y2, z2, rfl, by omega, hb, ht, hw2, f3⟩
  rintro σ H2 ⟨ns, v, x2, y2, z2, rfl, hl, hb, ht, hw2, f3⟩
  have lp : 1 ≤ ns.length := by omega
  refine ⟨fun σ H' => ∃ (ns : List Int) (x y z : Int), σ = [some (.ref a), some (.int m), some (.ref t), v, none] ∧ (ns.length : Int) = m ∧ (∀ n ∈ ns, 0 ≤ n ∧ n ≤ 1000000) ∧ ns.sum ≠ 0 ∧ H' t = some (.lst (ns.map V.int)) ∧ H' a = some (wl x y z) ∧ Fr a H H', ?_, ?_⟩
  · refine ⟨_, rfl, t, ns, rfl, SqL.of ht, ?_⟩
    tm_at "go"
    refine ite2 (fun c => ?_) (fun c => ?_)
    · tm_at "go"
      refine ⟨_, _, _, _, _, rfl, hw2, (by omega), (by omega), fun r1 x3 y3 z3 h1 g1 => ?_⟩
      tm_at "go"
      refine ⟨t, _, r1, r1.toNat, rfl, rfl, (by tm_at "hp"), ix_ok h1 (by rw [List.length_map]; omega), ?_⟩
      have hj : r1.toNat < ns.length := by omega
      have hb2 : ∀ n ∈ ns.set r1.toNat 1, 0 ≤ n ∧ n ≤ 1000000 := fun u hu => by
        rcases mem_set_of hu with rfl | h
        · exact ⟨by decide, by decide⟩
        · exact hb u h
      refine ⟨ns.set r1.toNat 1, x3, y3, z3, rfl, by rw [List.length_set]; exact hl, hb2, ?_, by rw [upd_same, List.map_set], by tm_at "hp", (f3.trans Fr.put).mut ht0⟩
      have := sum_ge (fun n hn => (hb2 n hn).1) (List.mem_set hj 1)
      omega
    · have c : ns.sum ≠ 0 := by
        intro e; rw [e] at c; exact c rfl
      exact ⟨ns, x2, y2, z2, rfl, hl, hb, c, ht, hw2, f3⟩
  rintro σ H3 ⟨ns, x3, y3, z3, rfl, hl, hb, hsum, ht, hw3, f4⟩
  have l60 : ns.length ≤ 60 := by omega
  have lp2 : 1 ≤ ns.length := by omega
  refine ⟨fun σ H' => ∃ (t : Addr) (ns : List Int) (x y z : Int), σ = [some (.ref a), some (.int m), some (.ref t), v, none] ∧ Shs ns ∧ H t = none ∧ t ≠ a ∧ H' t = some (.lst (ns.map V.int)) ∧ H' a = some (wl x y z) ∧ Fr a H H', ?_, ?_⟩
  · tm_at "go"
    refine ⟨_, _, _, _, _, rfl, hw3, (by decide), (by decide), fun r1 x4 y4 z4 h1 g1 => ?_⟩
    tm_at "go"
    refine ite2 (fun c => ?_) (fun c => ?_)
    · have f5 : Fr a H (upd H3 a (wl x4 y4 z4)) := f4.trans Fr.put
      refine ⟨_, rfl, t, rfl, ⟨_, SqL.of (by tm_at "hp")⟩, ?_⟩
      refine lcP (b := false) (e := V.int) (as := ns) (fun _ => true) (fun n => V.int (n % 7)) (by tm_at "hp") (by omega) (fun _ => rfl) (fun x H' _ _ R k => k _ (Same.refl _)) (fun x H' hx _ s' R k => ?_) (fun D H' nD s' hD => ?_)
      · tm_at "go"
        exact k _ (Same.refl _)
      have hDa : a ≠ D := ne_nn nD upd_same
      have hD0 : H D = none := f5.free upd_same nD
      rw [filter_yes] at hD
      have hD : H' D = some (.lst ((ns.map (· % 7)).map V.int)) := by rw [hD, List.map_map]; rfl
      obtain ⟨n0, r0, en⟩ : ∃ n0 r0, ns = n0 :: r0 := by
        cases ns with
        | nil => exact absurd lp2 (by decide)
        | cons a b => exact ⟨a, b, rfl⟩
      subst en
      have hD2 : H' D = some (.lst (.int (n0 % 7) :: (r0.map (· % 7)).map V.int)) := hD
      tm_at "go"
      refine ⟨D, (n0 % 7 + 1) :: r0.map (· % 7), x4, y4, z4, rfl, ⟨?_, ?_, ?_, ?_⟩, hD0, Ne.symm hDa, upd_same, by rw [upd_ne hDa]; exact s'.g upd_same, (f5.same s').mut hD0⟩
      · simp
      · simpa using l60
      · intro u hu
        rcases List.mem_cons.mp hu with rfl | hu
        · omega
        · obtain ⟨w, _, rfl⟩ := List.mem_map.mp hu
          omega
      · have hnn : ∀ n ∈ r0.map (· % 7), 0 ≤ n := by
          intro u hu
          obtain ⟨w, _, rfl⟩ := List.mem_map.mp hu
          omega
        have := sum_nn hnn
        rw [List.sum_cons]
        omega
    · exact ⟨t, ns, x4, y4, z4, rfl, ⟨lp2, l60, hb, hsum⟩, ht0, hta, by tm_at "hp", upd_same, f4.trans Fr.put⟩
  rintro σ H5 ⟨t, ns, x3, y3, z3, rfl, hs, h0, h1, h2, h3, f⟩
  exact ⟨_, rfl, q _ t ns x3 y3 z3 hs h0 h1 h2 h3 f⟩

end
section
variable {P : Program} {w : World} {K : PySem.W.Frag} {mg : Str → Option Value} {base : Heap}
theorem loc_ex {ns : List Int} {n : Int} (hn : ∀ z ∈ ns, 0 ≤ z) (h0 : 0 ≤ n) (h1 : n < ns.sum) : ∃ i, Loc ns n i := by
  have key : ∀ k, k ≤ ns.length → n < SS ns k → ∃ i, Loc ns n i := by
    intro k
    induction k with
    | zero => intro _ h; rw [SS_zero] at h; omega
    | succ k ih =>
      intro hk h
      by_cases c : n < SS ns k
      · exact ih (by omega) c
      · exact ⟨k, by omega, by omega, h⟩
  exact key ns.length (Nat.le_refl _) (by rw [SS_all]; exact h1)
theorem loc_le {ns : List Int} {n : Int} {i j : Nat} (hn : ∀ z ∈ ns, 0 ≤ z) (a : Loc ns n i) (b : Loc ns n j) : i ≤ j := by
  apply Classical.byContradiction
  intro c
  have := SS_mono hn (show j + 1 ≤ i by omega)
  have := a.lo
  have := b.hi
  omega
theorem loc_eq {ns : List Int} {n : Int} {i j : Nat} (hn : ∀ z ∈ ns, 0 ≤ z) (a : Loc ns n i) (b : Loc ns n j) : i = j :=
  Nat.le_antisymm (loc_le hn a b) (loc_le hn b a)
theorem get_firsts {ns : List Int} {k : Nat} (h : k ≤ ns.length) : ((List.range (ns.length + 1)).map (SS ns))[k]? = some (SS ns k) := by
  rw [List.getElem?_map, List.getElem?_range (by omega)]; rfl
def tK (ns : List Int) (n : Int) (k : Nat) : Bool := decide (SS ns k ≤ n) && decide (0 < ns.getD k 0)
theorem max_loc {ns : List Int} {n m : Int} {i : Nat} (hn : ∀ z ∈ ns, 0 ≤ z) (L : Loc ns n i)
    (hm : m ∈ ((List.range ns.length).filter (tK ns n)).map (fun k : Nat => (k : Int))) (hx : ∀ y ∈ ((List.range ns.length).filter (tK ns n)).map (fun k : Nat => (k : Int)), y ≤ m) : m = (i : Int) := by
  obtain ⟨z, hz, hzm⟩ := get_of L.lt
  have e := SS_succ hz
  have hi : tK ns n i = true := by
    unfold tK
    have h1 := L.lo
    have h2 := L.hi
    have h3 : ns.getD i 0 = z := by rw [List.getD_eq_getElem?_getD, hz]; rfl
    rw [h3, decide_eq_true h1, decide_eq_true (by omega)]; rfl
  have h1 : (i : Int) ≤ m := hx _ (List.mem_map.mpr ⟨i, List.mem_filter.mpr ⟨List.mem_range.mpr L.lt, hi⟩, rfl⟩)
  obtain ⟨k, hk, rfl⟩ := List.mem_map.mp hm
  obtain ⟨hk1, hk2⟩ := List.mem_filter.mp hk
  unfold tK at hk2
  have h2 := of_decide_eq_true (Bool.and_eq_true_iff.mp hk2).1
  apply Classical.byContradiction
  intro c
  have h3 := SS_mono hn (show i + 1 ≤ k by omega)
  have h4 := L.hi
  omega
def sp_right (K : PySem.W.Frag) : Sp := fun vs H Q _ => ∃ (p f : Addr) (b : Bool) (ns : List Int) (n : Int), vs = [.ref p, .ref f, .int n] ∧ H p = some (sq b (ns.map V.int)) ∧ H f = some (.lst (((List.range (ns.length + 1)).map (SS ns)).map V.int)) ∧ Shs ns ∧ 0 ≤ n ∧ n < ns.sum ∧
  ∀ H', Same H H' → Q (.bl true) H'
theorem ok_number_right (T : Txt K mg) : FnOk P w K mg base CX0 7 T.f_number_right T.d_number_right ["_law_shares_here", "_law_firsts_here", "_law_number"] (sp_right K) := by
  refine T.F_number_right.ok sc_number_right (fun vs H Q E h => ?_) (fun cdv A outer s H vs Q E hr h => ?_)
  · obtain ⟨p, f, b, ns, n, rfl, hp, hf, hs, h0, h1, q⟩ := h; rfl
  obtain ⟨p, f, b, ns, n, rfl, hp, hf, hs, h0, h1, q⟩ := h
  refine ⟨_, (pss_cons (ps_set (i := 3) sc_number_right.nd rfl (Or.inl rfl) (pe_callB (cr_max rfl) (by rfl) T.n_max (by decide +kernel) (pa_cons (pe_lc (own := [("_law_k", 6)]) (g := gName 6) rfl sc_number_right.nd (pi_range1 (by rfl) T.n_range (pa_cons (pe_callB call_len_seq (by rfl) T.n_len (by decide +kernel) (pa_cons (pv 0) pa_nil)) pa_nil)) (blkOk_by (own := [("_law_k", 6)]) (N := ["_law_shares_here", "_law_firsts_here", "_law_number", "_law_at", "_law_rest", "_law_found", "_law_k", "_law_one"]) (sc := defScope s_number_right) (by decide +kernel)) (fun _ _ _ _ _ => (pg_name (i := 6) sc_number_right.nd rfl (Or.inl rfl))) (fun _ _ _ _ _ => (pts_one (PW.pt (pw_and (pt_cmpR op_le (pe_ix (show IxR _ (rIxL K) from ix_list) (pv 1) (pv 6) (fun _ _ => rfl)) (pv 2) (nomark _)) (pw_and1 (pt_cmpR op_gt (pe_ix (show IxR _ (rIx K) from ix_seq) (pv 0) (pv 6) (fun _ _ => rfl)) pe_int (nomark _))))))) (fun _ _ _ _ _ => (pv 6))) pa_nil)))
      (pss_cons (ps_set (i := 4) sc_number_right.nd rfl (Or.inl rfl) (pe_op op_sub (pv 2) (pe_ix ix_list (pv 1) (pv 3) (fun _ _ => rfl))))
      (pss_cons (ps_set (i := 5) sc_number_right.nd rfl (Or.inl rfl) (pe_lst (pa_cons (pe_call (ok_share_at T) (hr.mono (by decide)) rfl T.g_share_at T.k_share_at T.b_share_at .nil pass0 (pa_cons (pv 0) (pa_cons (pv 2) pa_nil))) (pa_cons (pe_call (ok_rest_in T) (hr.mono (by decide)) rfl T.g_rest_in T.k_rest_in T.b_rest_in .nil pass0 (pa_cons (pv 0) (pa_cons (pv 2) pa_nil))) (pa_cons (pe_call (ok_number_of T) (hr.mono (by decide)) rfl T.g_number_of T.k_number_of T.b_number_of .nil pass0 (pa_cons (pv 0) (pa_cons (pv 3) (pa_cons (pv 4) pa_nil)))) pa_nil)))))
      (pss_one (ps_ret (pe_and (pe_cmpR (op_eqD hr.units) (pv 5) (pe_lst (pa_cons (pv 3) (pa_cons (pv 4) (pa_cons (pv 2) pa_nil)))) (nomark _)) (pe_one (pe_callB (cr_all rfl) (by rfl) T.n_all (by decide +kernel) (pa_cons (pe_lc (own := [("_law_one", 7)]) (g := gName 7) (tt := tYes) rfl sc_number_right.nd (pi_list (pv 5)) (blkOk_by (own := [("_law_one", 7)]) (N := ["_law_shares_here", "_law_firsts_here", "_law_number", "_law_at", "_law_rest", "_law_found", "_law_k", "_law_one"]) (sc := defScope s_number_right) (by decide +kernel)) (fun _ _ _ _ _ => (pg_name (i := 7) sc_number_right.nd rfl (Or.inl rfl))) (fun _ _ _ _ _ => pts_nil) (fun _ _ _ _ _ => (pe_call (ok_whole T) (hr.mono (by decide)) rfl T.g_whole T.k_whole T.b_whole .nil pass0 (pa_cons (pv 7) pa_nil)))) pa_nil))))))))), ?_⟩
  have hnn : ∀ n ∈ ns, 0 ≤ n := fun n hn => (hs.bd n hn).1
  obtain ⟨i, L⟩ := loc_ex hnn h0 h1
  obtain ⟨zi, hzi, _⟩ := get_of L.lt
  have ei := SS_succ hzi
  have l60 := hs.l2
  refine ⟨_, rfl, p, _, rfl, sq_or hp, _, rfl, ?_, ?_, ?_⟩
  · rw [List.length_map]; omega
  · rw [List.length_map]; omega
  refine lcR (tK ns n) (fun k => .int k) (by rw [List.length_map]; omega) (fun _ => rfl) (fun k H' hk s' R r => ?_) (fun k H' hk _ s' R r => ?_) (fun D H' nD s' hD => ?_)
  · rw [List.length_map] at hk
    have hk : k < ns.length := by omega
    obtain ⟨z, hz, hzm⟩ := get_of hk
    have hg : ns.getD k 0 = z := by rw [List.getD_eq_getElem?_getD, hz]; rfl
    have hg2 := r H' (Same.refl _)
    unfold tK at hg2
    rw [hg] at hg2
    tm_at "go"
    refine ⟨f, _, _, _, rfl, rfl, SqL.of (s'.g hf), at_int (j := k) (by omega) (get_firsts (Nat.le_of_lt hk)), ?_⟩
    tm_at "go"
    refine ite2 (fun c => ?_) (fun c => ?_)
    · tm_at "go"
      refine ix_sq (s'.g hp) (at_int (j := k) (by omega) hz) ?_
      tm_at "go"
      rw [c] at hg2
      exact hg2
    · rw [Bool.eq_false_iff.mpr c] at hg2
      exact hg2
  · tm_at "go"
    have e : (0 : Int) + (k : Int) = k := by omega
    rw [e]
    exact r _ (Same.refl _)
  have hD : H' D = some (.lst ((((List.range ns.length).filter (tK ns n)).map (fun k : Nat => (k : Int))).map V.int)) := by
    rw [hD, List.length_map, List.map_map]; rfl
  refine ⟨D, _, rfl, SqL.of hD, ?_, fun m hm hx => ?_⟩
  · refine List.length_pos_of_mem (a := (i : Int)) (List.mem_map.mpr ⟨i, List.mem_filter.mpr ⟨List.mem_range.mpr L.lt, ?_⟩, rfl⟩)
    unfold tK
    have h2 := L.lo
    have h3 := L.hi
    have h4 : ns.getD i 0 = zi := by rw [List.getD_eq_getElem?_getD, hzi]; rfl
    rw [h4, decide_eq_true h2, decide_eq_true (by omega)]; rfl
  have em := max_loc hnn L hm hx
  subst em
  have hp1 := s'.g hp
  tm_at "go"
  refine ⟨f, _, _, _, rfl, rfl, SqL.of (s'.g hf), at_int (j := i) rfl (get_firsts (Nat.le_of_lt L.lt)), ?_⟩
  tm_at "go"
  refine ⟨p, b, ns, n, rfl, hp1, hs, h0, h1, fun H2 j Lj s2 => ?_⟩
  obtain rfl := loc_eq hnn L Lj
  tm_at "go"
  refine ⟨p, b, ns, n, rfl, s2.g hp1, hs, h0, h1, fun H3 j Lj s3 => ?_⟩
  obtain rfl := loc_eq hnn L Lj
  tm_at "go"
  have h2 := L.lo
  have h3 := L.hi
  refine ⟨p, b, ns, i, n - SS ns i, zi, rfl, s3.g (s2.g hp1), hs, hzi, by omega, by omega, fun H4 s4 => ?_⟩
  have e2 : SS ns i + (n - SS ns i) = n := by omega
  rw [e2]
  refine ⟨Nat.le_of_ble_eq_true rfl, fun u nu => ?_⟩
  tm_at "go"
  refine ⟨Nat.le_of_ble_eq_true rfl, fun u2 nu2 => ?_⟩
  refine eqI (b := false) (c := false) (ns := [(i : Int), n - SS ns i, n]) (ms := [(i : Int), n - SS ns i, n]) (by tm_at "hp") upd_same ?_
  tm_at "go"
  refine ifT (by simp) ?_
  tm_at "go"
  refine ⟨⟨_, SqL.of (by tm_at "hp")⟩, ?_⟩
  refine lcP (b := false) (e := V.int) (as := [(i : Int), n - SS ns i, n]) (fun _ => true) (fun _ => .bl true) (by tm_at "hp") (Nat.le_of_ble_eq_true rfl) (fun _ => rfl) (fun x H' _ _ R k => k _ (Same.refl _)) (fun x H' hx _ s' R k => ?_) (fun D2 H5 nD2 s5 hD5 => ?_)
  · tm_at "go"
    exact ⟨_, _, rfl, kn_int _, k _ (Same.refl _)⟩
  refine ⟨D2, [true, true, true], rfl, SqL.of hD5, ?_⟩
  exact q _ ((((((s'.trans s2).trans s3).trans s4).mk nu).mk nu2).trans s5)
/-- how many numbers below t are of share i -/
def cnt (ns : List Int) (t : Nat) (i : Nat) : Int := if (t : Int) ≤ SS ns i then 0 else if SS ns (i + 1) ≤ t then SS ns (i + 1) - SS ns i else t - SS ns i
theorem cnt_step {ns : List Int} {t i : Nat} (hn : ∀ z ∈ ns, 0 ≤ z) (L : Loc ns (t : Int) i) : ((List.range ns.length).map (cnt ns t)).set i (cnt ns t i + 1) = (List.range ns.length).map (cnt ns (t + 1)) := by
  have h1 := L.lo
  have h2 := L.hi
  apply List.ext_getElem?
  intro j
  rw [List.getElem?_set]
  by_cases hj : j < ns.length
  · have g1 : ((List.range ns.length).map (cnt ns t))[j]? = some (cnt ns t j) := by rw [List.getElem?_map, List.getElem?_range hj]; rfl
    have g2 : ((List.range ns.length).map (cnt ns (t + 1)))[j]? = some (cnt ns (t + 1) j) := by rw [List.getElem?_map, List.getElem?_range hj]; rfl
    have m1 := SS_mono hn (show j ≤ j + 1 by omega)
    by_cases e : i = j
    · subst e
      rw [if_pos rfl, if_pos (by simpa using hj), g2]
      unfold cnt
      congr 1
      split <;> split <;> (try split) <;> (try split) <;> omega
    · rw [if_neg e, g1, g2]
      unfold cnt
      congr 1
      by_cases c : j < i
      · have m2 := SS_mono hn (show j + 1 ≤ i by omega)
        split <;> split <;> (try split) <;> (try split) <;> omega
      · have m2 := SS_mono hn (show i + 1 ≤ j by omega)
        split <;> split <;> (try split) <;> (try split) <;> omega
  · have g1 : ((List.range ns.length).map (cnt ns t))[j]? = none := by rw [List.getElem?_eq_none_iff]; simp; omega
    have g2 : ((List.range ns.length).map (cnt ns (t + 1)))[j]? = none := by rw [List.getElem?_eq_none_iff]; simp; omega
    have e : i ≠ j := fun e => hj (e ▸ L.lt)
    rw [if_neg e, g1, g2]
theorem cnt_zero {ns : List Int} (hn : ∀ z ∈ ns, 0 ≤ z) : (List.range ns.length).map (cnt ns 0) = List.replicate ns.length 0 := by
  apply List.ext_getElem?
  intro j
  by_cases hj : j < ns.length
  · rw [List.getElem?_map, List.getElem?_range hj, List.getElem?_replicate, if_pos hj]
    have := SS_nn hn j
    show some (cnt ns 0 j) = some 0
    unfold cnt
    rw [if_pos (by omega)]
  · rw [List.getElem?_eq_none_iff.mpr (by simp; omega), List.getElem?_eq_none_iff.mpr (by simp; omega)]
theorem cnt_all {ns : List Int} {t : Nat} (hn : ∀ z ∈ ns, 0 ≤ z) (ht : (t : Int) = ns.sum) : (List.range ns.length).map (cnt ns t) = ns := by
  apply List.ext_getElem?
  intro j
  by_cases hj : j < ns.length
  · obtain ⟨z, hz, _⟩ := get_of hj
    have e := SS_succ hz
    have m1 := SS_mono hn (show j + 1 ≤ ns.length by omega)
    have m2 := SS_mono hn (show j ≤ j + 1 by omega)
    rw [SS_all] at m1
    rw [List.getElem?_map, List.getElem?_range hj, hz]
    show some (cnt ns t j) = some z
    unfold cnt
    congr 1
    split <;> (try split) <;> omega
  · rw [List.getElem?_eq_none_iff.mpr (by simp; omega), List.getElem?_eq_none_iff.mpr (by omega)]
theorem loc_lt {ns : List Int} {t i : Nat} (hn : ∀ z ∈ ns, 0 ≤ z) : ((List.range ns.length).map (cnt ns t)).length = ns.length := by simp
/-! ### the law -/
def sp_law (K : PySem.W.Frag) : Sp := fun vs H Q _ => ∃ (a : Addr) (ns : List Int), vs = [.ref a] ∧ SqL K H a (ns.map V.int) ∧ ns.length ≤ 63 ∧ ∀ H', Q (.bl true) H'
theorem ok_law (T : Txt K mg) : FnOk P w K mg base CX0 8 T.f_law T.d_law ["_law_script"] (sp_law K) := by
  refine T.F_law.ok sc_law (fun vs H Q E h => ?_) (fun cdv A outer s H vs Q E hr h => ?_)
  · obtain ⟨a, sc, rfl, hS, hl63, q⟩ := h; rfl
  obtain ⟨a, sc, rfl, hS, hl63, q⟩ := h
  refine ⟨_, (pss_cons (ps_for PassesOwn.never rfl (pi_range1 (by rfl) T.n_range (pa_cons (pe_callB (call_max2 rfl) (by rfl) T.n_max (by decide +kernel) (pa_cons pe_int (pa_cons (pe_callB (call_min2 rfl) (by rfl) T.n_min (by decide +kernel) (pa_cons (pe_callB call_len_seq (by rfl) T.n_len (by decide +kernel) (pa_cons (pv 0) pa_nil)) (pa_cons pe_int pa_nil))) pa_nil))) pa_nil)) (pg_name (i := 1) sc_law.nd rfl (Or.inl rfl))
      (pss_cons (ps_set (i := 2) sc_law.nd rfl (Or.inl rfl) (pe_call (ok_well T) (hr.mono (by decide)) rfl T.g_well T.k_well T.b_well .nil pass0 (pa_cons (pe_call (ok_cell T) (hr.mono (by decide)) rfl T.g_cell T.k_cell T.b_cell .nil pass0 (pa_cons (pv 0) (pa_cons (pv 1) pa_nil))) pa_nil)))
      (pss_cons (ps_set (i := 3) sc_law.nd rfl (Or.inl rfl) (pe_call (ok_shares T) (hr.mono (by decide)) rfl T.g_shares T.k_shares T.b_shares .nil pass0 (pa_cons (pv 2) pa_nil)))
      (C8.pss_cut (ps_set (i := 4) sc_law.nd rfl (Or.inr rfl) (pe_ix ix_list (pe_lst (pa_cons (pe_callTy call_list_of (by rfl) T.n_list (by decide +kernel) (pa_cons (pv 3) pa_nil)) (pa_cons (pe_callTy call_tuple_of (by rfl) T.n_tuple (by decide +kernel) (pa_cons (pv 3) pa_nil)) pa_nil))) (pe_call (ok_draw T) (hr.mono (by decide)) rfl T.g_draw T.k_draw T.b_draw .nil pass0 (pa_cons (pv 2) (pa_cons pe_int pa_nil))) (fun _ _ => rfl)))
      (pss_cons (ps_set (i := 5) sc_law.nd rfl (Or.inl rfl) (pe_call (ok_firsts T) (hr.mono (by decide)) rfl T.g_firsts T.k_firsts T.b_firsts .nil pass0 (pa_cons (pv 3) pa_nil)))
      (pss_cons (ps_set (i := 6) sc_law.nd rfl (Or.inl rfl) (pe_ix ix_list (pv 5) (pe_un un_neg pe_int) (fun _ _ => rfl)))
      (pss_cons (ps_setLc (i := 8) (own := [("_law_at", 7)]) (g := gName 7) (tt := tYes) rfl sc_law.nd rfl rfl (sw_true rfl rfl rfl (by decide +kernel)) (pi_range1 (by rfl) T.n_range (pa_cons (pe_callB call_len_seq (by rfl) T.n_len (by decide +kernel) (pa_cons (pv 3) pa_nil)) pa_nil)) (blkOk_by (own := [("_law_at", 7)]) (N := ["_law_script", "_law_k", "_law_well_here", "_law_shares_here", "_law_handed", "_law_firsts_here", "_law_total", "_law_at", "_law_told", "_law_one", "_law_some", "_law_counts", "_law_number"]) (sc := defScope s_law) (by decide +kernel)) (fun _ _ _ _ _ => (pg_name (i := 7) sc_law.nd rfl (Or.inl rfl))) (fun _ _ _ _ _ => pts_nil) (fun _ _ _ _ _ => (pe_call (ok_first_of T) (hr.mono (by decide)) rfl T.g_first_of T.k_first_of T.b_first_of .nil pass0 (pa_cons (pv 4) (pa_cons (pv 7) pa_nil)))))
      (pss_cons (ps_if (PW.pt (pw_or (pt_cmpR op_ne (pe_call (ok_shares_many T) (hr.mono (by decide)) rfl T.g_shares_many T.k_shares_many T.b_shares_many .nil pass0 (pa_cons (pv 4) pa_nil)) (pv 6) (nomark _)) (pw_or1 (pt_not (pt_val (pe_call (ok_whole T) (hr.mono (by decide)) rfl T.g_whole T.k_whole T.b_whole .nil pass0 (pa_cons (pe_call (ok_shares_many T) (hr.mono (by decide)) rfl T.g_shares_many T.k_shares_many T.b_shares_many .nil pass0 (pa_cons (pv 4) pa_nil)) pa_nil))))))) (pss_one (ps_ret pe_bl)) pss_nil)
      (pss_cons (ps_if (PW.pt (pw_or (pt_cmpR (op_neD hr.units) (pv 8) (pe_slice sl_list (pv 5) po_none (po_some (pe_un un_neg pe_int))) (nomark _)) (pw_or1 (pt_not (pt_val (pe_callB (cr_all rfl) (by rfl) T.n_all (by decide +kernel) (pa_cons (pe_lc (own := [("_law_one", 9)]) (g := gName 9) (tt := tYes) rfl sc_law.nd (pi_list (pv 8)) (blkOk_by (own := [("_law_one", 9)]) (N := ["_law_script", "_law_k", "_law_well_here", "_law_shares_here", "_law_handed", "_law_firsts_here", "_law_total", "_law_at", "_law_told", "_law_one", "_law_some", "_law_counts", "_law_number"]) (sc := defScope s_law) (by decide +kernel)) (fun _ _ _ _ _ => (pg_name (i := 9) sc_law.nd rfl (Or.inl rfl))) (fun _ _ _ _ _ => pts_nil) (fun _ _ _ _ _ => (pe_call (ok_whole T) (hr.mono (by decide)) rfl T.g_whole T.k_whole T.b_whole .nil pass0 (pa_cons (pv 9) pa_nil)))) pa_nil))))))) (pss_one (ps_ret pe_bl)) pss_nil)
      (C8.pss_cut (ps_set (i := 7) sc_law.nd rfl (Or.inl rfl) (pe_call (ok_draw T) (hr.mono (by decide)) rfl T.g_draw T.k_draw T.b_draw .nil pass0 (pa_cons (pv 2) (pa_cons (pe_callB call_len_seq (by rfl) T.n_len (by decide +kernel) (pa_cons (pv 3) pa_nil)) pa_nil))))
      (pss_cons (ps_set (i := 10) sc_law.nd rfl (Or.inl rfl) (pe_lst (pa_cons pe_int (pa_cons (pe_op op_sub (pv 6) pe_int) (pa_cons (pe_callB (call_min2 rfl) (by rfl) T.n_min (by decide +kernel) (pa_cons (pe_ix ix_list (pv 5) (pv 7) (fun _ _ => rfl)) (pa_cons (pe_op op_sub (pv 6) pe_int) pa_nil))) (pa_cons (pe_callB (call_max2 rfl) (by rfl) T.n_max (by decide +kernel) (pa_cons pe_int (pa_cons (pe_op op_sub (pe_ix ix_list (pv 5) (pv 7) (fun _ _ => rfl)) pe_int) pa_nil))) (pa_cons (pe_call (ok_far T) (hr.mono (by decide)) rfl T.g_far T.k_far T.b_far .nil pass0 (pa_cons (pv 2) (pa_cons (pv 6) pa_nil))) pa_nil)))))))
      (C8.pss_cut (ps_if (pt_cmpR op_le (pv 6) pe_int (nomark _)) (C8.pss_cut (ps_set (i := 10) sc_law.nd rfl (Or.inl rfl) (pe_listRg rfl (by rfl) T.n_list (prg_1 (by rfl) T.n_range (pv 6))))
      (pss_cons (ps_set (i := 11) sc_law.nd rfl (Or.inl rfl) (pe_op op_rep (pe_lst (pa_cons pe_int pa_nil)) (pe_callB call_len_seq (by rfl) T.n_len (by decide +kernel) (pa_cons (pv 3) pa_nil))))
      (pss_cons (ps_for PassesOwn.never rfl (pi_list (pv 10)) (pg_name (i := 12) sc_law.nd rfl (Or.inl rfl))
      (pss_cons (ps_set (i := 9) sc_law.nd rfl (Or.inl rfl) (pe_call (ok_share_at T) (hr.mono (by decide)) rfl T.g_share_at T.k_share_at T.b_share_at .nil pass0 (pa_cons (pv 4) (pa_cons (pv 12) pa_nil))))
      (pss_one (ps_asg (pe_op op_add (pe_ix ix_list (pv 11) (pv 9) (fun _ _ => rfl)) pe_int) (pg_sub (pv 11) (pv 9) set_list)))))
      (pss_one (ps_if (pt_cmpR (op_neD hr.units) (pv 11) (pv 3) (nomark _)) (pss_one (ps_ret pe_bl)) pss_nil))))) pss_nil)
      (pss_cons (ps_for PassesOwn.never rfl (pi_list (pv 10)) (pg_name (i := 12) sc_law.nd rfl (Or.inl rfl))
      (pss_one (ps_if (pt_not (pt_val (pe_call (ok_number_right T) (hr.mono (by decide)) rfl T.g_number_right T.k_number_right T.b_number_right .nil pass0 (pa_cons (pv 4) (pa_cons (pv 5) (pa_cons (pv 12) pa_nil)))))) (pss_one (ps_ret pe_bl)) pss_nil)))
      (pss_one (ps_if (pt_cmpR (op_neD hr.units) (pe_callTy call_list_of (by rfl) T.n_list (by decide +kernel) (pa_cons (pv 4) pa_nil)) (pv 3) (nomark _)) (pss_one (ps_ret pe_bl)) pss_nil)))))))))))))))
      (pss_one (ps_ret pe_bl))), ?_⟩
  refine ⟨_, rfl, a, _, rfl, .inl hS, _, _, rfl, _, _, rfl, _, rfl, ?_, ?_, ?_⟩
  · split <;> split <;> omega
  · split <;> split <;> omega
  refine for_range (lo := 0) (n := _) (fun i σ H' => ∃ v1 v2 v3 v4 v5 v6 v7 v8 v9 v10 v11 v12, σ = [some (.ref a), v1, v2, v3, v4, v5, v6, v7, v8, v9, v10, v11, v12] ∧ Same H H')
    ⟨_, _, _, _, _, _, _, _, _, _, _, _, rfl, Same.refl _⟩ ?_ ?_
  · rintro i σ H0 hi ⟨v1, v2, v3, v4, v5, v6, v7, v8, v9, v10, v11, v12, rfl, s0⟩
    tm_at "go"
    refine ⟨a, sc, _, rfl, s0.seq hS, by omega, fun c => ?_⟩
    tm_at "go"
    refine fun w x0 y0 z0 nw => ?_
    have nwH : H w = none := s0.free nw
    tm_at "go"
    refine ⟨w, x0, y0, z0, rfl, upd_same, fun H1 sh ns x1 y1 z1 hs nsh shw hsh hw1 f1 => ?_⟩
    have s1 : Same H H1 := (s0.mk nw).fr nwH f1
    have hnn : ∀ n ∈ ns, 0 ≤ n := fun n hn => (hs.bd n hn).1
    have l1 := hs.l1
    have l2 := hs.l2
    have hsm : 0 < ns.sum := by
      have h1 := sum_nn hnn
      have h2 := hs.sm
      omega
    refine ⟨fun σ H' => ∃ (hd : Addr) (b : Bool) (x y z : Int), σ = [some (.ref a), some (.int (0 + (i : Int))), some (.ref w), some (.ref sh), some (.ref hd), v5, v6, v7, v8, v9, v10, v11, v12] ∧ H' hd = some (sq b (ns.map V.int)) ∧ H' sh = some (.lst (ns.map V.int)) ∧ H' w = some (wl x y z) ∧ hd ≠ w ∧ Same H H', ?_, ?_⟩
    · tm_at "go"
      refine fun l1 nl1 => ?_
      have e1 : l1 ≠ w := Ne.symm (ne_nn nl1 hw1)
      have hw2 : upd H1 l1 (.lst (ns.map V.int)) w = some (wl x1 y1 z1) := by tm_at "hp"
      have hsh2 : upd H1 l1 (.lst (ns.map V.int)) sh = some (.lst (ns.map V.int)) := by tm_at "hp"
      refine ⟨_, rfl, sh, _, rfl, .inl ⟨SqL.of hsh2, fun l2 nl2 => ?_⟩⟩
      have e2 : l2 ≠ w := Ne.symm (ne_nn nl2 hw2)
      have e12 : l1 ≠ l2 := ne_nn nl2 upd_same
      have hw3 : upd (upd H1 l1 (.lst (ns.map V.int))) l2 (.tup (ns.map V.int)) w = some (wl x1 y1 z1) := by tm_at "hp"
      have hsh3 : upd (upd H1 l1 (.lst (ns.map V.int))) l2 (.tup (ns.map V.int)) sh = some (.lst (ns.map V.int)) := by tm_at "hp"
      refine ⟨Nat.le_of_ble_eq_true rfl, fun l3 nl3 => ?_⟩
      have e3 : l3 ≠ w := Ne.symm (ne_nn nl3 hw3)
      have e13 : l1 ≠ l3 := ne_nn nl3 (by tm_at "hp")
      have e23 : l2 ≠ l3 := ne_nn nl3 (by tm_at "hp")
      have es3 : sh ≠ l3 := ne_nn nl3 hsh3
      have s2 := ((s1.mk nl1).mk nl2).mk (o := .lst [.ref l1, .ref l2]) nl3
      tm_at "go"
      refine ⟨_, _, _, _, _, rfl, (by tm_at "hp"), (by decide), (by decide), fun r x y z hr0 hr1 => ?_⟩
      have cs : r = 0 ∨ r = 1 := by omega
      rcases cs with rfl | rfl
      · refine ⟨l3, _, 0, .ref l1, rfl, rfl, SqL.of (by tm_at "hp"), rfl, ?_⟩
        exact ⟨l1, false, x, y, z, rfl, by tm_at "hp", by tm_at "hp", upd_same, e1, s2.mut nwH⟩
      · refine ⟨l3, _, 1, .ref l2, rfl, rfl, SqL.of (by tm_at "hp"), rfl, ?_⟩
        exact ⟨l2, true, x, y, z, rfl, by tm_at "hp", by tm_at "hp", upd_same, e2, s2.mut nwH⟩
    rintro σ H2 ⟨hd, b, x2, y2, z2, rfl, hhd, hsh2, hw2, hdw, s2⟩
    tm_at "go"
    refine ⟨sh, ns, rfl, hsh2, by omega, fun H3 f s3 nf hf => ?_⟩
    have hfw : f ≠ w := Ne.symm (ne_nn nf hw2)
    have hsh3 := s3.g hsh2
    have hhd3 := s3.g hhd
    have hw3 := s3.g hw2
    have hlast : (((List.range (ns.length + 1)).map (SS ns)).map V.int).getLast? = some (.int ns.sum) := by
      rw [List.range_succ, List.map_append, List.map_append, List.getLast?_append]
      show some (V.int (SS ns ns.length)) = _
      rw [SS_all]
    tm_at "go"
    refine ⟨f, _, _, _, rfl, rfl, SqL.of hf, at_end hlast, ?_⟩
    tm_at "go"
    refine ⟨by omega, by rw [List.length_map]; omega, ?_⟩
    refine lcR (fun _ => true) (fun k => .int (SS ns k)) (by rw [List.length_map]; omega) (fun _ => rfl) (fun x H' _ _ R k => k _ (Same.refl _)) (fun k H' hk _ s' R r => ?_) (fun D H4 nD s4 hD => ?_)
    · rw [List.length_map] at hk
      tm_at "go"
      exact ⟨hd, b, ns, k, by rw [Int.zero_add]; rfl, s'.g hhd3, hs, by omega, fun H2 s2 => r _ s2⟩
    have hD : H4 D = some (.lst (((List.range ns.length).map (SS ns)).map V.int)) := by
      rw [hD, filter_yes, List.length_map, List.map_map]; rfl
    have hhd4 := s4.g hhd3
    have hsh4 := s4.g hsh3
    have hf4 := s4.g hf
    have hw4 := s4.g hw3
    have s24 := (s2.trans s3).trans s4
    tm_at "go"
    refine ⟨hd, b, ns, rfl, hhd4, hs, fun H5 s5 => ?_⟩
    tm_at "go"
    refine ifF (by simp) ?_
    tm_at "go"
    refine ⟨hd, b, ns, rfl, s5.g hhd4, hs, fun H6 s6 => ?_⟩
    refine ⟨_, _, rfl, kn_int _, ?_⟩
    have s56 := s5.trans s6
    tm_at "go"
    have hlen : (((List.range (ns.length + 1)).map (SS ns)).map V.int).length = ns.length + 1 := by simp
    refine ⟨f, _, rfl, SqL.of (s56.g hf4), fun u nu => ?_⟩
    have ec : cutV (((List.range (ns.length + 1)).map (SS ns)).map V.int) none (some (-1)) = ((List.range ns.length).map (SS ns)).map V.int := by
      rw [cut_last (by rw [hlen]; omega), List.range_succ, List.map_append, List.map_append]
      exact List.dropLast_concat
    refine neI (b := false) (c := false) (ns := (List.range ns.length).map (SS ns)) (ms := (List.range ns.length).map (SS ns)) (by have := s56.g hD; tm_at "hp") (by rw [upd_same]; exact congrArg (fun z => some (HO.lst z)) ec) ?_
    tm_at "go"
    refine ifF (by simp) ?_
    have hD7 : (upd H6 u (HO.lst (cutV (((List.range (ns.length + 1)).map (SS ns)).map V.int) none (some (-1))))) D = some (.lst (((List.range ns.length).map (SS ns)).map V.int)) := by
      have := s56.g hD
      tm_at "hp"
    tm_at "go"
    refine ⟨⟨_, SqL.of hD7⟩, ?_⟩
    refine lcP (b := false) (e := V.int) (as := (List.range ns.length).map (SS ns)) (fun _ => true) (fun _ => .bl true) hD7 (by simp; omega) (fun _ => rfl) (fun x H' _ _ R k => k _ (Same.refl _)) (fun x H' hx _ s' R k => ?_) (fun D2 H8 nD2 s8 hD8 => ?_)
    · tm_at "go"
      exact ⟨_, _, rfl, kn_int _, k _ (Same.refl _)⟩
    refine ⟨D2, _, rfl, SqL.of (by rw [hD8, filter_yes, map_true]), ?_⟩
    rw [all_yes]
    tm_at "go"
    have s68 := ((Same.refl H6).mk nu).trans s8
    have s48 := s56.trans s68
    have s28 := s24.trans s48
    have hsh8 := s48.g hsh4
    have hhd8 := s48.g hhd4
    have hf8 := s48.g hf4
    have hw8 := s48.g hw4
    refine ⟨fun σ H' => ∃ (k : Nat) (x y z : Int), σ = [some (.ref a), some (.int (0 + (i : Int))), some (.ref w), some (.ref sh), some (.ref hd), some (.ref f), some (.int ns.sum), some (.int k), some (.ref D), v9, v10, v11, v12] ∧ k < ns.length ∧ H' hd = some (sq b (ns.map V.int)) ∧ H' sh = some (.lst (ns.map V.int)) ∧ H' f = some (.lst (((List.range (ns.length + 1)).map (SS ns)).map V.int)) ∧ H' w = some (wl x y z) ∧ Same H H', ?_, ?_⟩
    · tm_at "go"
      refine ⟨_, _, _, _, _, rfl, hw8, (by rw [List.length_map]; omega), (by rw [List.length_map]; omega), fun r x y z hr0 hr1 => ?_⟩
      rw [List.length_map] at hr1
      have er : ((r.toNat : Nat) : Int) = r := by omega
      exact ⟨r.toNat, x, y, z, by rw [er]; rfl, by omega, by tm_at "hp", by tm_at "hp", by tm_at "hp", upd_same, s28.mut nwH⟩
    rintro σ H9 ⟨k, x9, y9, z9, rfl, hk, hhd9, hsh9, hf9, hw9, s9⟩
    have hsk := SS_mono hnn (show k ≤ ns.length by omega)
    have hsk0 := SS_nn hnn k
    rw [SS_all] at hsk
    tm_at "go"
    refine ⟨f, _, _, _, rfl, rfl, SqL.of hf9, at_int (j := k) rfl (get_firsts (Nat.le_of_lt hk)), ?_⟩
    tm_at "go"
    refine ⟨f, _, _, _, rfl, rfl, SqL.of hf9, at_int (j := k) rfl (get_firsts (Nat.le_of_lt hk)), ?_⟩
    tm_at "go"
    refine ⟨w, _, x9, y9, z9, rfl, hw9, hsm, fun r x10 y10 z10 H10 hr0 hr1 hw10 f10 => ?_⟩
    have hhd10 := f10.g hdw hhd9
    have hsh10 := f10.g shw hsh9
    have hf10 := f10.g hfw hf9
    have s10 := s9.fr nwH f10
    refine ⟨Nat.le_of_ble_eq_true rfl, fun so nso => ?_⟩
    have ks0 : ∀ u ∈ [0, ns.sum - 1, (if ns.sum - 1 < SS ns k then ns.sum - 1 else SS ns k), (if SS ns k - 1 > 0 then SS ns k - 1 else 0), r], 0 ≤ u ∧ u < ns.sum := by
      intro u hu
      simp only [List.mem_cons, List.not_mem_nil, or_false] at hu
      rcases hu with rfl | rfl | rfl | rfl | rfl
      · omega
      · omega
      · split <;> omega
      · split <;> omega
      · exact ⟨hr0, hr1⟩
    have s11 := s10.mk (o := .lst ([0, ns.sum - 1, (if ns.sum - 1 < SS ns k then ns.sum - 1 else SS ns k), (if SS ns k - 1 > 0 then SS ns k - 1 else 0), r].map V.int)) nso
    have hhd11 : (upd H10 so (.lst ([0, ns.sum - 1, (if ns.sum - 1 < SS ns k then ns.sum - 1 else SS ns k), (if SS ns k - 1 > 0 then SS ns k - 1 else 0), r].map V.int))) hd = some (sq b (ns.map V.int)) := by tm_at "hp"
    have hsh11 : (upd H10 so (.lst ([0, ns.sum - 1, (if ns.sum - 1 < SS ns k then ns.sum - 1 else SS ns k), (if SS ns k - 1 > 0 then SS ns k - 1 else 0), r].map V.int))) sh = some (.lst (ns.map V.int)) := by tm_at "hp"
    have hf11 : (upd H10 so (.lst ([0, ns.sum - 1, (if ns.sum - 1 < SS ns k then ns.sum - 1 else SS ns k), (if SS ns k - 1 > 0 then SS ns k - 1 else 0), r].map V.int))) f = some (.lst (((List.range (ns.length + 1)).map (SS ns)).map V.int)) := by tm_at "hp"
    refine ⟨fun σ H' => ∃ (so : Addr) (ks : List Int) (v9 v11 v12 : Option V), σ = [some (.ref a), some (.int (0 + (i : Int))), some (.ref w), some (.ref sh), some (.ref hd), some (.ref f), some (.int ns.sum), some (.int k), some (.ref D), v9, some (.ref so), v11, v12] ∧ (∀ u ∈ ks, 0 ≤ u ∧ u < ns.sum) ∧ H' so = some (.lst (ks.map V.int)) ∧ H' hd = some (sq b (ns.map V.int)) ∧ H' sh = some (.lst (ns.map V.int)) ∧ H' f = some (.lst (((List.range (ns.length + 1)).map (SS ns)).map V.int)) ∧ Same H H', ?_, ?_⟩
    · tm_at "go"
      refine ite2 (fun c40 => ?_) (fun c40 => ?_)
      · have c40 := of_decide_eq_true c40
        refine ⟨fun σ H' => ∃ so, σ = [some (.ref a), some (.int (0 + (i : Int))), some (.ref w), some (.ref sh), some (.ref hd), some (.ref f), some (.int ns.sum), some (.int k), some (.ref D), v9, some (.ref so), v11, v12] ∧ H' so = some (.lst (rgV 0 ns.sum)) ∧ H' hd = some (sq b (ns.map V.int)) ∧ H' sh = some (.lst (ns.map V.int)) ∧ H' f = some (.lst (((List.range (ns.length + 1)).map (SS ns)).map V.int)) ∧ Same H H', ?_, ?_⟩
        · tm_at "go"
          refine ⟨⟨by omega, by omega, by omega, by omega, by omega⟩, fun so2 nso2 => ?_⟩
          refine ⟨so2, rfl, upd_same, by tm_at "hp", by tm_at "hp", by tm_at "hp", s11.mk nso2⟩
        rintro σ HA ⟨so2, rfl, hso2, hhdA, hshA, hfA, sA⟩
        refine ⟨Nat.le_of_ble_eq_true rfl, fun l0 nl0 => ?_⟩
        tm_at "go"
        refine ⟨l0, _, _, rfl, rfl, upd_same, by omega, by rw [List.length_map]; omega, ?_, fun ct nct => ?_⟩
        · rw [List.length_map]
          show 1 * (ns.length : Int).toNat ≤ sizeLine
          exact Nat.le_trans (show 1 * (ns.length : Int).toNat ≤ 60 by omega) (by decide)
        have eflat : (List.replicate ((((ns.map V.int).length : Nat) : Int)).toNat [V.int 0]).flatten = ((List.range ns.length).map (cnt ns 0)).map V.int := by
          rw [List.flatten_replicate_singleton, cnt_zero hnn, List.map_replicate, List.length_map]; rfl
        have sA1 := (Same.refl HA).mk (o := .lst [.int 0]) nl0
        have nctA := sA1.free nct
        have sA2 := sA1.mk (o := .lst (List.replicate ((((ns.map V.int).length : Nat) : Int)).toNat [V.int 0]).flatten) nct
        have erg : rgV 0 ns.sum = (List.range ns.sum.toNat).map fun i => V.int (0 + (i : Nat)) := by
          unfold rgV; rw [Int.sub_zero]
        refine ⟨_, rfl, so2, rfl, ⟨_, SqL.of (sA2.g hso2)⟩, for_list (K := K) (a := so2) (xs := rgV 0 ns.sum) (fun t σ H' => ∃ v9 v12, σ = [some (.ref a), some (.int (0 + (i : Int))), some (.ref w), some (.ref sh), some (.ref hd), some (.ref f), some (.int ns.sum), some (.int k), some (.ref D), v9, some (.ref so2), some (.ref ct), v12] ∧ Same HA H' ∧ H' ct = some (.lst (((List.range ns.length).map (cnt ns t)).map V.int)))
          ⟨_, _, rfl, sA2, by rw [upd_same, eflat]⟩ (fun t σ H' _ ⟨_, _, _, s', _⟩ => SqL.of (s'.g hso2)) ?_ ?_⟩
        · rintro t y σ HB hy ⟨v9, v12, rfl, sB, hct⟩
          have ht : t < ns.sum.toNat := by
            have := get_lt hy
            rw [rgV_length] at this
            omega
          obtain rfl : y = .int (t : Int) := by
            rw [erg, List.getElem?_map, List.getElem?_range ht] at hy
            have h9 : y = V.int (0 + (t : Int)) := (Option.some.inj hy).symm
            rw [Int.zero_add] at h9
            exact h9
          tm_at "go"
          refine ⟨hd, b, ns, t, rfl, sB.g hhdA, hs, by omega, by omega, fun HC u L sC => ?_⟩
          have hct2 := sC.g hct
          have hu : ((List.range ns.length).map (cnt ns t))[u]? = some (cnt ns t u) := by rw [List.getElem?_map, List.getElem?_range L.lt]; rfl
          tm_at "go"
          refine ⟨ct, _, _, _, rfl, rfl, SqL.of hct2, at_int (j := u) rfl hu, ?_⟩
          tm_at "go"
          refine ⟨ct, _, _, u, rfl, rfl, hct2, ix_ok (by omega) (by rw [List.length_map, List.length_map, List.length_range]; exact Int.ofNat_lt.mpr L.lt), ?_⟩
          refine ⟨_, _, rfl, (sB.trans sC).mut nctA, ?_⟩
          rw [upd_same, ← cnt_step hnn L, List.map_set]
        · rintro σ HB ⟨v9, v12, rfl, sB, hct⟩
          rw [rgV_length, Int.sub_zero, cnt_all hnn (by omega)] at hct
          refine ⟨_, rfl, _, rfl, ?_⟩
          refine neI (b := false) (c := false) (ns := ns) (ms := ns) hct (sB.g hshA) ?_
          tm_at "go"
          refine ifF (by simp) ?_
          refine ⟨so2, (List.range ns.sum.toNat).map fun i => ((0 : Int) + (i : Nat)), v9, _, v12, rfl, ?_, by rw [sB.g hso2, erg, List.map_map]; rfl, sB.g hhdA, sB.g hshA, sB.g hfA, sA.trans sB⟩
          intro u hu
          obtain ⟨j, hj, rfl⟩ := List.mem_map.mp hu
          have := List.mem_range.mp hj
          omega
      · exact ⟨so, _, v9, v11, v12, rfl, ks0, upd_same, hhd11, hsh11, hf11, s11⟩
    rintro σ H12 ⟨so2, ks, v9, v11, v12, rfl, hks, hso, hhd12, hsh12, hf12, s12⟩
    refine ⟨_, rfl, so2, rfl, ⟨_, SqL.of hso⟩, for_list (K := K) (a := so2) (xs := ks.map V.int) (fun i' σ H' => ∃ v12, σ = [some (.ref a), some (.int (0 + (i : Int))), some (.ref w), some (.ref sh), some (.ref hd), some (.ref f), some (.int ns.sum), some (.int k), some (.ref D), v9, some (.ref so2), v11, v12] ∧ Same H12 H') ⟨_, rfl, Same.refl _⟩ (fun i σ H' _ ⟨_, _, s'⟩ => SqL.of (s'.g hso)) ?_ ?_⟩
    · rintro j y σ H13 hy ⟨v12, rfl, s13⟩
      obtain ⟨u, hu, rfl⟩ : ∃ u, ks[j]? = some u ∧ y = V.int u := by
        rw [List.getElem?_map] at hy
        cases e : ks[j]? with
        | none => rw [e] at hy; cases hy
        | some z => rw [e] at hy; exact ⟨z, rfl, (Option.some.inj hy).symm⟩
      have hb := hks u (List.mem_of_getElem? hu)
      tm_at "go"
      refine ⟨hd, f, b, ns, u, rfl, s13.g hhd12, s13.g hf12, hs, hb.1, hb.2, fun H14 s14 => ?_⟩
      tm_at "go"
      exact s13.trans s14
    · rintro σ H13 ⟨v12, rfl, s13⟩
      refine ⟨_, rfl, hd, _, rfl, sq_or (s13.g hhd12), fun l nl => ?_⟩
      refine ⟨_, rfl, ?_⟩
      refine neI (b := false) (c := false) (ns := ns) (ms := ns) upd_same (by have := s13.g hsh12; tm_at "hp") ?_
      tm_at "go"
      refine ifF (by simp) ?_
      exact ⟨_, _, _, _, _, _, _, _, _, _, _, _, rfl, (s12.trans s13).mk nl⟩
  · rintro σ H' ⟨v1, v2, v3, v4, v5, v6, v7, v8, v9, v10, v11, v12, rfl, s0⟩
    exact q _

end
theorem all_mk {l : PySem.W.OpenLaw} {w : World} {K : PySem.W.Frag} {h : Heap} {mg : Str → Option Value} {fa : Addr} (X : K.In h) (G : h.Ns mainGlobals mg) (hfa : mg "law" = some (.ref fa))
    {f1 : Addr} {od1 an1 : Option Addr} {sl1 : Array (Option Value)} {oc1 kV1 dc1 pm1 cd1 ct1 : Value}
    {f2 : Addr} {od2 an2 : Option Addr} {sl2 : Array (Option Value)} {oc2 kV2 dc2 pm2 cd2 ct2 : Value}
    {f3 : Addr} {od3 an3 : Option Addr} {sl3 : Array (Option Value)} {oc3 kV3 dc3 pm3 cd3 ct3 : Value}
    {f4 : Addr} {od4 an4 : Option Addr} {sl4 : Array (Option Value)} {oc4 kV4 dc4 pm4 cd4 ct4 : Value}
    {f5 : Addr} {od5 an5 : Option Addr} {sl5 : Array (Option Value)} {oc5 kV5 dc5 pm5 cd5 ct5 : Value}
    {f6 : Addr} {od6 an6 : Option Addr} {sl6 : Array (Option Value)} {oc6 kV6 dc6 pm6 cd6 ct6 : Value}
    {f7 : Addr} {od7 an7 : Option Addr} {sl7 : Array (Option Value)} {oc7 kV7 dc7 pm7 cd7 ct7 : Value}
    {f8 : Addr} {od8 an8 : Option Addr} {sl8 : Array (Option Value)} {oc8 kV8 dc8 pm8 cd8 ct8 : Value}
    {f9 : Addr} {od9 an9 : Option Addr} {sl9 : Array (Option Value)} {oc9 kV9 dc9 pm9 cd9 ct9 : Value}
    {f10 : Addr} {od10 an10 : Option Addr} {sl10 : Array (Option Value)} {oc10 kV10 dc10 pm10 cd10 ct10 : Value}
    {f11 : Addr} {od11 an11 : Option Addr} {sl11 : Array (Option Value)} {oc11 kV11 dc11 pm11 cd11 ct11 : Value}
    {f12 : Addr} {od12 an12 : Option Addr} {sl12 : Array (Option Value)} {oc12 kV12 dc12 pm12 cd12 ct12 : Value}
    {f13 : Addr} {od13 an13 : Option Addr} {sl13 : Array (Option Value)} {oc13 kV13 dc13 pm13 cd13 ct13 : Value}
    {f14 : Addr} {od14 an14 : Option Addr} {sl14 : Array (Option Value)} {oc14 kV14 dc14 pm14 cd14 ct14 : Value}
    {f15 : Addr} {od15 an15 : Option Addr} {sl15 : Array (Option Value)} {oc15 kV15 dc15 pm15 cd15 ct15 : Value}
    {f16 : Addr} {od16 an16 : Option Addr} {sl16 : Array (Option Value)} {oc16 kV16 dc16 pm16 cd16 ct16 : Value}
    {f17 : Addr} {od17 an17 : Option Addr} {sl17 : Array (Option Value)} {oc17 kV17 dc17 pm17 cd17 ct17 : Value}
    {f18 : Addr} {od18 an18 : Option Addr} {sl18 : Array (Option Value)} {oc18 kV18 dc18 pm18 cd18 ct18 : Value}
    {t_MOST_SHARES : Tok}
    {t_MOST_SHARE : Tok}
    (a1 : PySem.W.nsIn K mainGlobals "is_whole" = some (some (.ref f1)))
    (l1 : K.lookup f1 = some ⟨oc1, od1, .func (PySem.W.fnOf "is_whole" "is_whole" (defArgs s_is_whole) (defBody s_is_whole) (defScope s_is_whole) .none kV1 dc1 pm1 an1 cd1 ct1), sl1⟩) (c1 : PySem.W.codeIn K cd1 "is_whole" = true) (k1 : PySem.W.keepIn K (.ref f1) = true)
    (a2 : PySem.W.nsIn K mainGlobals "is_within" = some (some (.ref f2)))
    (l2 : K.lookup f2 = some ⟨oc2, od2, .func (PySem.W.fnOf "is_within" "is_within" (defArgs s_is_within) (defBody s_is_within) (defScope s_is_within) .none kV2 dc2 pm2 an2 cd2 ct2), sl2⟩) (c2 : PySem.W.codeIn K cd2 "is_within" = true) (k2 : PySem.W.keepIn K (.ref f2) = true)
    (a3 : PySem.W.nsIn K mainGlobals "need_shares" = some (some (.ref f3)))
    (l3 : K.lookup f3 = some ⟨oc3, od3, .func (PySem.W.fnOf "need_shares" "need_shares" (defArgs s_need_shares) (defBody s_need_shares) (defScope s_need_shares) .none kV3 dc3 pm3 an3 cd3 ct3), sl3⟩) (c3 : PySem.W.codeIn K cd3 "need_shares" = true) (k3 : PySem.W.keepIn K (.ref f3) = true)
    (a4 : PySem.W.nsIn K mainGlobals "shares_many" = some (some (.ref f4)))
    (l4 : K.lookup f4 = some ⟨oc4, od4, .func (PySem.W.fnOf "shares_many" "shares_many" (defArgs s_shares_many) (defBody s_shares_many) (defScope s_shares_many) .none kV4 dc4 pm4 an4 cd4 ct4), sl4⟩) (c4 : PySem.W.codeIn K cd4 "shares_many" = true) (k4 : PySem.W.keepIn K (.ref f4) = true)
    (a5 : PySem.W.nsIn K mainGlobals "parted_at" = some (some (.ref f5)))
    (l5 : K.lookup f5 = some ⟨oc5, od5, .func (PySem.W.fnOf "parted_at" "parted_at" (defArgs s_parted_at) (defBody s_parted_at) (defScope s_parted_at) .none kV5 dc5 pm5 an5 cd5 ct5), sl5⟩) (c5 : PySem.W.codeIn K cd5 "parted_at" = true) (k5 : PySem.W.keepIn K (.ref f5) = true)
    (a6 : PySem.W.nsIn K mainGlobals "share_at" = some (some (.ref f6)))
    (l6 : K.lookup f6 = some ⟨oc6, od6, .func (PySem.W.fnOf "share_at" "share_at" (defArgs s_share_at) (defBody s_share_at) (defScope s_share_at) .none kV6 dc6 pm6 an6 cd6 ct6), sl6⟩) (c6 : PySem.W.codeIn K cd6 "share_at" = true) (k6 : PySem.W.keepIn K (.ref f6) = true)
    (a7 : PySem.W.nsIn K mainGlobals "rest_in" = some (some (.ref f7)))
    (l7 : K.lookup f7 = some ⟨oc7, od7, .func (PySem.W.fnOf "rest_in" "rest_in" (defArgs s_rest_in) (defBody s_rest_in) (defScope s_rest_in) .none kV7 dc7 pm7 an7 cd7 ct7), sl7⟩) (c7 : PySem.W.codeIn K cd7 "rest_in" = true) (k7 : PySem.W.keepIn K (.ref f7) = true)
    (a8 : PySem.W.nsIn K mainGlobals "first_of" = some (some (.ref f8)))
    (l8 : K.lookup f8 = some ⟨oc8, od8, .func (PySem.W.fnOf "first_of" "first_of" (defArgs s_first_of) (defBody s_first_of) (defScope s_first_of) .none kV8 dc8 pm8 an8 cd8 ct8), sl8⟩) (c8 : PySem.W.codeIn K cd8 "first_of" = true) (k8 : PySem.W.keepIn K (.ref f8) = true)
    (a9 : PySem.W.nsIn K mainGlobals "number_of" = some (some (.ref f9)))
    (l9 : K.lookup f9 = some ⟨oc9, od9, .func (PySem.W.fnOf "number_of" "number_of" (defArgs s_number_of) (defBody s_number_of) (defScope s_number_of) .none kV9 dc9 pm9 an9 cd9 ct9), sl9⟩) (c9 : PySem.W.codeIn K cd9 "number_of" = true) (k9 : PySem.W.keepIn K (.ref f9) = true)
    (a10 : PySem.W.nsIn K mainGlobals "_law_cell" = some (some (.ref f10)))
    (l10 : K.lookup f10 = some ⟨oc10, od10, .func (PySem.W.fnOf "_law_cell" "_law_cell" (defArgs s_cell) (defBody s_cell) (defScope s_cell) .none kV10 dc10 pm10 an10 cd10 ct10), sl10⟩) (c10 : PySem.W.codeIn K cd10 "_law_cell" = true) (k10 : PySem.W.keepIn K (.ref f10) = true)
    (a11 : PySem.W.nsIn K mainGlobals "_law_well" = some (some (.ref f11)))
    (l11 : K.lookup f11 = some ⟨oc11, od11, .func (PySem.W.fnOf "_law_well" "_law_well" (defArgs s_well) (defBody s_well) (defScope s_well) .none kV11 dc11 pm11 an11 cd11 ct11), sl11⟩) (c11 : PySem.W.codeIn K cd11 "_law_well" = true) (k11 : PySem.W.keepIn K (.ref f11) = true)
    (a12 : PySem.W.nsIn K mainGlobals "_law_draw" = some (some (.ref f12)))
    (l12 : K.lookup f12 = some ⟨oc12, od12, .func (PySem.W.fnOf "_law_draw" "_law_draw" (defArgs s_draw) (defBody s_draw) (defScope s_draw) .none kV12 dc12 pm12 an12 cd12 ct12), sl12⟩) (c12 : PySem.W.codeIn K cd12 "_law_draw" = true) (k12 : PySem.W.keepIn K (.ref f12) = true)
    (a13 : PySem.W.nsIn K mainGlobals "_law_far" = some (some (.ref f13)))
    (l13 : K.lookup f13 = some ⟨oc13, od13, .func (PySem.W.fnOf "_law_far" "_law_far" (defArgs s_far) (defBody s_far) (defScope s_far) .none kV13 dc13 pm13 an13 cd13 ct13), sl13⟩) (c13 : PySem.W.codeIn K cd13 "_law_far" = true) (k13 : PySem.W.keepIn K (.ref f13) = true)
    (a14 : PySem.W.nsIn K mainGlobals "_law_whole" = some (some (.ref f14)))
    (l14 : K.lookup f14 = some ⟨oc14, od14, .func (PySem.W.fnOf "_law_whole" "_law_whole" (defArgs s_whole) (defBody s_whole) (defScope s_whole) .none kV14 dc14 pm14 an14 cd14 ct14), sl14⟩) (c14 : PySem.W.codeIn K cd14 "_law_whole" = true) (k14 : PySem.W.keepIn K (.ref f14) = true)
    (a15 : PySem.W.nsIn K mainGlobals "_law_shares" = some (some (.ref f15)))
    (l15 : K.lookup f15 = some ⟨oc15, od15, .func (PySem.W.fnOf "_law_shares" "_law_shares" (defArgs s_shares) (defBody s_shares) (defScope s_shares) .none kV15 dc15 pm15 an15 cd15 ct15), sl15⟩) (c15 : PySem.W.codeIn K cd15 "_law_shares" = true) (k15 : PySem.W.keepIn K (.ref f15) = true)
    (a16 : PySem.W.nsIn K mainGlobals "_law_firsts" = some (some (.ref f16)))
    (l16 : K.lookup f16 = some ⟨oc16, od16, .func (PySem.W.fnOf "_law_firsts" "_law_firsts" (defArgs s_firsts) (defBody s_firsts) (defScope s_firsts) .none kV16 dc16 pm16 an16 cd16 ct16), sl16⟩) (c16 : PySem.W.codeIn K cd16 "_law_firsts" = true) (k16 : PySem.W.keepIn K (.ref f16) = true)
    (a17 : PySem.W.nsIn K mainGlobals "_law_number_right" = some (some (.ref f17)))
    (l17 : K.lookup f17 = some ⟨oc17, od17, .func (PySem.W.fnOf "_law_number_right" "_law_number_right" (defArgs s_number_right) (defBody s_number_right) (defScope s_number_right) .none kV17 dc17 pm17 an17 cd17 ct17), sl17⟩) (c17 : PySem.W.codeIn K cd17 "_law_number_right" = true) (k17 : PySem.W.keepIn K (.ref f17) = true)
    (a18 : PySem.W.nsIn K mainGlobals "law" = some (some (.ref f18)))
    (l18 : K.lookup f18 = some ⟨oc18, od18, .func (PySem.W.fnOf "law" "law" (defArgs s_law) (defBody s_law) (defScope s_law) .none kV18 dc18 pm18 an18 cd18 ct18), sl18⟩) (c18 : PySem.W.codeIn K cd18 "law" = true) (k18 : PySem.W.keepIn K (.ref f18) = true)
    (z_len : PySem.W.nsIn K mainGlobals "len" = some none)
    (z_max : PySem.W.nsIn K mainGlobals "max" = some none)
    (z_min : PySem.W.nsIn K mainGlobals "min" = some none)
    (z_sum : PySem.W.nsIn K mainGlobals "sum" = some none)
    (z_all : PySem.W.nsIn K mainGlobals "all" = some none)
    (z_isinstance : PySem.W.nsIn K mainGlobals "isinstance" = some none)
    (z_int : PySem.W.nsIn K mainGlobals "int" = some none)
    (z_bool : PySem.W.nsIn K mainGlobals "bool" = some none)
    (z_list : PySem.W.nsIn K mainGlobals "list" = some none)
    (z_tuple : PySem.W.nsIn K mainGlobals "tuple" = some none)
    (z_range : PySem.W.nsIn K mainGlobals "range" = some none)
    (y_MOST_SHARES : PySem.W.nsIn K mainGlobals "MOST_SHARES" = some (some (.int (60) t_MOST_SHARES)))
    (y_MOST_SHARE : PySem.W.nsIn K mainGlobals "MOST_SHARE" = some (some (.int (1000000) t_MOST_SHARE))) :
    ∃ fd : FuncData, (∀ (s : Shared) (v : Value), BindsTo s fd ⟨[v], []⟩ [("_law_script", v)]) ∧ ∀ base : Heap, K.In base → base.Ns mainGlobals mg → FnOk l.prog w K mg base CX0 8 fa fd ["_law_script"] (sp_law K) := by
  have e := hfa.symm.trans (PySem.W.mg_of X G a18)
  cases e
  have F1 := fun_mk (st := s_is_whole) l1 c1 k1
  have b1 := F1.binds (ps := ["thing"]) fun _ _ _ _ _ _ us hl => match us, hl with | [_], _ => rfl
  have F2 := fun_mk (st := s_is_within) l2 c2 k2
  have b2 := F2.binds (ps := ["thing", "low", "high"]) fun _ _ _ _ _ _ us hl => match us, hl with | [_, _, _], _ => rfl
  have F3 := fun_mk (st := s_need_shares) l3 c3 k3
  have b3 := F3.binds (ps := ["thing"]) fun _ _ _ _ _ _ us hl => match us, hl with | [_], _ => rfl
  have F4 := fun_mk (st := s_shares_many) l4 c4 k4
  have b4 := F4.binds (ps := ["shares"]) fun _ _ _ _ _ _ us hl => match us, hl with | [_], _ => rfl
  have F5 := fun_mk (st := s_parted_at) l5 c5 k5
  have b5 := F5.binds (ps := ["shares", "number"]) fun _ _ _ _ _ _ us hl => match us, hl with | [_, _], _ => rfl
  have F6 := fun_mk (st := s_share_at) l6 c6 k6
  have b6 := F6.binds (ps := ["shares", "number"]) fun _ _ _ _ _ _ us hl => match us, hl with | [_, _], _ => rfl
  have F7 := fun_mk (st := s_rest_in) l7 c7 k7
  have b7 := F7.binds (ps := ["shares", "number"]) fun _ _ _ _ _ _ us hl => match us, hl with | [_, _], _ => rfl
  have F8 := fun_mk (st := s_first_of) l8 c8 k8
  have b8 := F8.binds (ps := ["shares", "at"]) fun _ _ _ _ _ _ us hl => match us, hl with | [_, _], _ => rfl
  have F9 := fun_mk (st := s_number_of) l9 c9 k9
  have b9 := F9.binds (ps := ["shares", "at", "rest"]) fun _ _ _ _ _ _ us hl => match us, hl with | [_, _, _], _ => rfl
  have F10 := fun_mk (st := s_cell) l10 c10 k10
  have b10 := F10.binds (ps := ["_law_script", "_law_k"]) fun _ _ _ _ _ _ us hl => match us, hl with | [_, _], _ => rfl
  have F11 := fun_mk (st := s_well) l11 c11 k11
  have b11 := F11.binds (ps := ["_law_cell_here"]) fun _ _ _ _ _ _ us hl => match us, hl with | [_], _ => rfl
  have F12 := fun_mk (st := s_draw) l12 c12 k12
  have b12 := F12.binds (ps := ["_law_well_here", "_law_many"]) fun _ _ _ _ _ _ us hl => match us, hl with | [_, _], _ => rfl
  have F13 := fun_mk (st := s_far) l13 c13 k13
  have b13 := F13.binds (ps := ["_law_well_here", "_law_many"]) fun _ _ _ _ _ _ us hl => match us, hl with | [_, _], _ => rfl
  have F14 := fun_mk (st := s_whole) l14 c14 k14
  have b14 := F14.binds (ps := ["_law_thing"]) fun _ _ _ _ _ _ us hl => match us, hl with | [_], _ => rfl
  have F15 := fun_mk (st := s_shares) l15 c15 k15
  have b15 := F15.binds (ps := ["_law_well_here"]) fun _ _ _ _ _ _ us hl => match us, hl with | [_], _ => rfl
  have F16 := fun_mk (st := s_firsts) l16 c16 k16
  have b16 := F16.binds (ps := ["_law_shares_here"]) fun _ _ _ _ _ _ us hl => match us, hl with | [_], _ => rfl
  have F17 := fun_mk (st := s_number_right) l17 c17 k17
  have b17 := F17.binds (ps := ["_law_shares_here", "_law_firsts_here", "_law_number"]) fun _ _ _ _ _ _ us hl => match us, hl with | [_, _, _], _ => rfl
  have F18 := fun_mk (st := s_law) l18 c18 k18
  have b18 := F18.binds (ps := ["_law_script"]) fun _ _ _ _ _ _ us hl => match us, hl with | [_], _ => rfl
  let T : Txt K mg := { f_is_whole := f1, d_is_whole := _, g_is_whole := PySem.W.mg_of X G a1, k_is_whole := k1, F_is_whole := F1, b_is_whole := b1, f_is_within := f2, d_is_within := _, g_is_within := PySem.W.mg_of X G a2, k_is_within := k2, F_is_within := F2, b_is_within := b2, f_need_shares := f3, d_need_shares := _, g_need_shares := PySem.W.mg_of X G a3, k_need_shares := k3, F_need_shares := F3, b_need_shares := b3, f_shares_many := f4, d_shares_many := _, g_shares_many := PySem.W.mg_of X G a4, k_shares_many := k4, F_shares_many := F4, b_shares_many := b4, f_parted_at := f5, d_parted_at := _, g_parted_at := PySem.W.mg_of X G a5, k_parted_at := k5, F_parted_at := F5, b_parted_at := b5, f_share_at := f6, d_share_at := _, g_share_at := PySem.W.mg_of X G a6, k_share_at := k6, F_share_at := F6, b_share_at := b6, f_rest_in := f7, d_rest_in := _, g_rest_in := PySem.W.mg_of X G a7, k_rest_in := k7, F_rest_in := F7, b_rest_in := b7, f_first_of := f8, d_first_of := _, g_first_of := PySem.W.mg_of X G a8, k_first_of := k8, F_first_of := F8, b_first_of := b8, f_number_of := f9, d_number_of := _, g_number_of := PySem.W.mg_of X G a9, k_number_of := k9, F_number_of := F9, b_number_of := b9, f_cell := f10, d_cell := _, g_cell := PySem.W.mg_of X G a10, k_cell := k10, F_cell := F10, b_cell := b10, f_well := f11, d_well := _, g_well := PySem.W.mg_of X G a11, k_well := k11, F_well := F11, b_well := b11, f_draw := f12, d_draw := _, g_draw := PySem.W.mg_of X G a12, k_draw := k12, F_draw := F12, b_draw := b12, f_far := f13, d_far := _, g_far := PySem.W.mg_of X G a13, k_far := k13, F_far := F13, b_far := b13, f_whole := f14, d_whole := _, g_whole := PySem.W.mg_of X G a14, k_whole := k14, F_whole := F14, b_whole := b14, f_shares := f15, d_shares := _, g_shares := PySem.W.mg_of X G a15, k_shares := k15, F_shares := F15, b_shares := b15, f_firsts := f16, d_firsts := _, g_firsts := PySem.W.mg_of X G a16, k_firsts := k16, F_firsts := F16, b_firsts := b16, f_number_right := f17, d_number_right := _, g_number_right := PySem.W.mg_of X G a17, k_number_right := k17, F_number_right := F17, b_number_right := b17, f_law := fa, d_law := _, g_law := PySem.W.mg_of X G a18, k_law := k18, F_law := F18, b_law := b18, n_len := PySem.W.mg_none_of X G z_len, n_max := PySem.W.mg_none_of X G z_max, n_min := PySem.W.mg_none_of X G z_min, n_sum := PySem.W.mg_none_of X G z_sum, n_all := PySem.W.mg_none_of X G z_all, n_isinstance := PySem.W.mg_none_of X G z_isinstance, n_int := PySem.W.mg_none_of X G z_int, n_bool := PySem.W.mg_none_of X G z_bool, n_list := PySem.W.mg_none_of X G z_list, n_tuple := PySem.W.mg_none_of X G z_tuple, n_range := PySem.W.mg_none_of X G z_range, c_MOST_SHARES := ⟨_, PySem.W.mg_of X G y_MOST_SHARES⟩, c_MOST_SHARE := ⟨_, PySem.W.mg_of X G y_MOST_SHARE⟩ }
  exact ⟨PySem.W.fnOf "law" "law" (defArgs s_law) (defBody s_law) (defScope s_law) .none kV18 dc18 pm18 an18 cd18 ct18, fun s v => .of_eq rfl, fun base _ _ => ok_law T⟩
theorem walk {l : PySem.W.OpenLaw} {q : Program} {loose : List Str} {XP : (Str → Option Value) → Heap → Prop} {YP : World → Heap → Prop} {d : DefRec} {K : Params → PySem.W.Frag} (hn : l.most = some 63) (hdf : d.params.defaults = [])
    (hY : ∀ (w : World) (h : Heap), YP w h → (K w.params).In h)
    (F : ∀ (w : World) (mg : Str → Option Value) (fa : Addr) (h : Heap), (K w.params).In h → h.Ns mainGlobals mg → mg d.name = some (.ref fa) →
      ∃ fd : FuncData, (∀ (s : Shared) (u : Value), BindsTo s fd ⟨[u], []⟩ [("_law_script", u)]) ∧ ∀ base : Heap, (K w.params).In base → base.Ns mainGlobals mg → FnOk l.prog w (K w.params) mg base CX0 8 fa fd ["_law_script"] (sp_law (K w.params))) :
    PySem.W.WalkO q loose XP YP l.row.toRowW d [] (fun f vs => PySem.call f vs) :=
  L2.walk_of (n := 63) (k := 8) (x := "_law_script") (CX := fun _ => CX0) (sp := fun w => sp_law (K w.params)) hn (by decide) hdf ⟨rfl, by decide, by decide⟩ hY F (fun _ _ a ns hl _ hS => ⟨a, ns, rfl, hS, hl, fun _ => rfl⟩) fun _ _ _ _ _ z => z
end S

open PySem PySem.W PyProof.Rows in
set_option maxRecDepth 100000 in
set_option maxHeartbeats 0 in
theorem PySem.Challenge.cw_splitseed_k57_shares_holds : PySem.Challenge.rw_splitseed_k57_shares.Holds := by
  w_on; o_law; k_head; (case hw => w_witness2)
  k_fill
  refine S.walk (l := PySem.Challenge.rw_splitseed_k57_shares) rfl rfl (fun w h Y => PySem.W.kIn_of Y) ?F
  case F =>
    intro w mg fa h KX G hmg
    refine' S.all_mk KX G hmg ?a1 ?l1 ?c1 ?k1 ?a2 ?l2 ?c2 ?k2 ?a3 ?l3 ?c3 ?k3 ?a4 ?l4 ?c4 ?k4 ?a5 ?l5 ?c5 ?k5 ?a6 ?l6 ?c6 ?k6 ?a7 ?l7 ?c7 ?k7 ?a8 ?l8 ?c8 ?k8 ?a9 ?l9 ?c9 ?k9 ?a10 ?l10 ?c10 ?k10 ?a11 ?l11 ?c11 ?k11 ?a12 ?l12 ?c12 ?k12 ?a13 ?l13 ?c13 ?k13 ?a14 ?l14 ?c14 ?k14 ?a15 ?l15 ?c15 ?k15 ?a16 ?l16 ?c16 ?k16 ?a17 ?l17 ?c17 ?k17 ?a18 ?l18 ?c18 ?k18 ?z_len ?z_max ?z_min ?z_sum ?z_all ?z_isinstance ?z_int ?z_bool ?z_list ?z_tuple ?z_range ?y_MOST_SHARES ?y_MOST_SHARE
    (case a1 => k_is)
    (case l1 => k_is)
    (case c1 => k_is)
    (case k1 => k_is)
    (case a2 => k_is)
    (case l2 => k_is)
    (case c2 => k_is)
    (case k2 => k_is)
    (case a3 => k_is)
    (case l3 => k_is)
    (case c3 => k_is)
    (case k3 => k_is)
    (case a4 => k_is)
    (case l4 => k_is)
    (case c4 => k_is)
    (case k4 => k_is)
    (case a5 => k_is)
    (case l5 => k_is)
    (case c5 => k_is)
    (case k5 => k_is)
    (case a6 => k_is)
    (case l6 => k_is)
    (case c6 => k_is)
    (case k6 => k_is)
    (case a7 => k_is)
    (case l7 => k_is)
    (case c7 => k_is)
    (case k7 => k_is)
    (case a8 => k_is)
    (case l8 => k_is)
    (case c8 => k_is)
    (case k8 => k_is)
    (case a9 => k_is)
    (case l9 => k_is)
    (case c9 => k_is)
    (case k9 => k_is)
    (case a10 => k_is)
    (case l10 => k_is)
    (case c10 => k_is)
    (case k10 => k_is)
    (case a11 => k_is)
    (case l11 => k_is)
    (case c11 => k_is)
    (case k11 => k_is)
    (case a12 => k_is)
    (case l12 => k_is)
    (case c12 => k_is)
    (case k12 => k_is)
    (case a13 => k_is)
    (case l13 => k_is)
    (case c13 => k_is)
    (case k13 => k_is)
    (case a14 => k_is)
    (case l14 => k_is)
    (case c14 => k_is)
    (case k14 => k_is)
    (case a15 => k_is)
    (case l15 => k_is)
    (case c15 => k_is)
    (case k15 => k_is)
    (case a16 => k_is)
    (case l16 => k_is)
    (case c16 => k_is)
    (case k16 => k_is)
    (case a17 => k_is)
    (case l17 => k_is)
    (case c17 => k_is)
    (case k17 => k_is)
    (case a18 => k_is)
    (case l18 => k_is)
    (case c18 => k_is)
    (case k18 => k_is)
    (case z_len => k_is)
    (case z_max => k_is)
    (case z_min => k_is)
    (case z_sum => k_is)
    (case z_all => k_is)
    (case z_isinstance => k_is)
    (case z_int => k_is)
    (case z_bool => k_is)
    (case z_list => k_is)
    (case z_tuple => k_is)
    (case z_range => k_is)
    (case y_MOST_SHARES => k_is)
    (case y_MOST_SHARE => k_is)
#print axioms PySem.Challenge.cw_splitseed_k57_shares_holds