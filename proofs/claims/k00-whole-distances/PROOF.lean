import PyProof.Rows.All
import Wide.All
import OpenK.AllK
import Wide.FinOn
import HandS.ForMost
import HandS.IsInst
import KE.GoesMore
import HandS.Conv
import HandS.Deep
import HandS.Style
import HandS.SortInts
import HandS.SortRule
import HandS.TupSets
import HandS.Codes
import PySem.Challenge.RW_nearhouses_k00_whole_distances
set_option Elab.async false
set_option linter.all false
set_option maxRecDepth 100000
set_option maxHeartbeats 4000000
/-! two rules beside the layer: enumerate over a tuple (from the library's Begins and Draws of a tuple), sum of a tuple of ints -/
namespace Nh0
open PySem L2 PyProof.Rows
open Sem (wp)
/-- the two cells that enumerate(v) lays, v told by how its iterator begins -/
abbrev cellE (at_ : Addr) : Obj := { cls := .type "enumerate", data := .fields #[.none, .bool false, .ref at_, rawInt 0, .none, .none] }
theorem newE {v : Value} {o : Obj} {Ok : Heap → Prop} (B : Begins v o Ok) :
    Meets (Builtin.«enumerate.__new__» ⟨[.type "enumerate", v], []⟩) (fun _ R s => Ok s.heap ∧ R (.ok (.ret (.ref (s.heap.push o).objs.size))) { s with heap := (s.heap.push o).push (cellE s.heap.objs.size) }) := by
  refine .of_wp fun p w A R s hs => ?_
  rcases s with ⟨hp, gs, dr, tk, os⟩
  have sub := sub_enumerate
  have it : ∀ {A' : Around} {E Q : Value → Shared → Prop}, Q (.ref hp.objs.size) ⟨hp.push o, gs, dr, tk, os⟩ → wpAny (model p w) A' (pyIter v) Q E ⟨hp, gs, dr, tk, os⟩ := fun z => B.iter p w _ _ _ _ hs.1 z
  wp_walk using it
  exact wpAny_stack_any fun _ => wpAny_pure (by
    split <;> first
      | (rename_i c _ _ _ _ _; cases (c == Value.type "enumerate") <;> (wp_walk using it; exact ⟨_, rfl, hs.2⟩))
      | (wp_walk using it; exact ⟨_, rfl, hs.2⟩))
theorem callE {P : Program} {w : World} {A : Around} {E Q : Value → Shared → Prop} {s : Shared} {v : Value} {o : Obj} {Ok : Heap → Prop} (B : Begins v o Ok) (ok : Ok s.heap)
    (q : ∀ g, IsEnum g (s.heap.objs.size + 1) s.heap.objs.size 0 .none → g.get? s.heap.objs.size = some o → (∀ b x, s.heap.get? b = some x → g.get? b = some x) → Q (.ref (s.heap.objs.size + 1)) { s with heap := g }) :
    wpAny (model P w) A (call (.type "enumerate") [v]) Q E s := by
  have sz : (s.heap.push o).objs.size = s.heap.objs.size + 1 := Heap.size_push ..
  have top : ((s.heap.push o).push (cellE s.heap.objs.size)).get? (s.heap.objs.size + 1) = some (cellE s.heap.objs.size) := sz ▸ Heap.get?_push_size (s.heap.push o) (o := cellE s.heap.objs.size) rfl
  refine callType_new F.called_enumerate (by decide) (F.typeCall_enumerate_1 _) (F.newCall_enumerate_1 _) (fun x => F.args_object_init_2 x _) F.entry_enumerate_new (newE B) ⟨ok, ?_⟩
  rw [sz]
  exact ⟨⟨_, top, rfl⟩, q _ top (Heap.get?_push_of_some _ (Heap.get?_push_size _ B.free)) fun b x e => Heap.get?_push_of_some _ (Heap.get?_push_of_some _ e)⟩
/-- the tuple at a as it stands: turn i gives a new pair (i, its item) -/
def IteT (K : PySem.W.Frag) (a : Addr) : It where
  go i H := ∃ (xs : List V) (x : V), SqT K H a xs ∧ xs[i]? = some x
  yld i H v H' := ∃ T x, v = .ref T ∧ H T = none ∧ H' = upd H T (.tup [.int (i : Nat), x]) ∧ ∀ xs, SqT K H a xs → xs[i]? = some x
  stop i H := ∃ xs : List V, SqT K H a xs ∧ xs.length ≤ i
theorem turnT {P : Program} {w : World} {K : PySem.W.Frag} {es : List Expr} {k : Nat} {pos : Pos} (a e j : Addr) (aj : a ≠ j) (ea : e ≠ a) (ej : e ≠ j) :
    Turn P w K (.Tuple es k pos) (IteT K a) [e, j] e (fun i h => (∃ z, IsEnum h e j ((i : Nat) : Int) z) ∧ h.IsTupleIter j a i) := by
  -- the library's walk of enumerate, over the draws of a tuple
  have walk : ∀ (X : Cx), X.calm = true → ∀ {pins : List (Addr × Obj)} {σ : L2.St} {H : Hp} {s : Shared}, Inv X pins σ H s → ∀ items : Array Value, WalksT X.prog X.w X.A e [e, j, a] [e, j] items.size (fun i vals => ∃ t x, items[i]? = some x ∧ vals = #[.int i t, x])
      (fun i h => (∃ z, IsEnum h e j i z) ∧ h.IsTupleIter j a i ∧ h.IsTuple a items) (fun i T h => (∃ x, IsEnumOut h e j ((i : Int) + 1) x T) ∧ (h.IsTupleIter j a (i + 1) ∧ h.IsTuple a items) ∧ T ≠ e ∧ T ≠ j) := fun X hc _ _ _ _ I items =>
    WalksT.enumerateD (Draws.tuple (A := X.A.in1) (show X.A.in1.handled = none from I.ok.hd hc) j a aj items) e ej (by simp; exact ⟨ej, ea⟩) (by simp)
  refine ⟨by simp, fun i h st b hb => ?_, fun i h g st k => ⟨st.1.imp fun z x => k e (by simp) _ x, st.2.at fun o x => k j (by simp) o x⟩, ?_, ?_, fun A i s Q E st q => st.1.elim fun z x => wpAny_pyIter_enum x q⟩
  · rcases List.mem_cons.mp hb with rfl | m
    · exact st.1.elim fun z x => ⟨_, x, fun v n => nomatch n⟩
    · obtain ⟨o, g, _, d⟩ := st.2
      exact ⟨o, List.mem_singleton.mp m ▸ g, fun v n => by rw [d] at n; cases n⟩
  · intro X e1 e2 e3 calm i pins s σ H E inv ok st gs
    subst e1 e2 e3
    obtain ⟨xs, x, sq, ix⟩ := gs
    obtain ⟨its, vs, tup, _⟩ := inv.tuple sq
    obtain ⟨u, iu, rel⟩ := vs.get ix
    have W := walk X calm inv its.toArray
    have small : i < its.toArray.size := by simpa using (List.getElem?_eq_some_iff.mp iu).1
    refine W.item i s _ _ small ⟨st.1, st.2, tup⟩ fun T vals g tk pt le isT mid kp => ⟨_, rfl, W.go es k pos i T _ _ _ mid fun g2 st2 kp2 => ?_⟩
    obtain ⟨t, y, iy, rfl⟩ := pt
    have hy : y = u := Option.some.inj (iy.symm.trans (by simpa using iu))
    subst hy
    have isT2 : g2.IsTuple T #[.int i t, y] := isT.at fun o z => kp2 T o (W.apart i T _ mid) z
    have frT : H T = none := inv.hok.fresh le
    refine ⟨.ref T, upd H T (.tup [.int (i : Nat), x]), inv.turnedNew (ch := [e, j]) (fun b o nb z => kp2 b o nb (kp b o nb z)) ok le ⟨by show 2 ≤ sizeLine; decide, [.int i t, y], .cons ⟨_, rfl⟩ (.cons rel .nil), isT2⟩, rfl,
      ⟨T, x, rfl, frT, rfl, fun zs z => inv.tuple_inj z sq ▸ ix⟩, ⟨st2.1, st2.2.1⟩, fun b hb => ?_⟩
    rw [upd_ne (show b ≠ T from fun z => W.apart i T _ mid (by rw [← z]; exact hb))]
    exact (ok b hb).1
  · intro X e1 e2 e3 calm i pins s σ H E inv ok st gs
    subst e1 e2 e3
    obtain ⟨xs, sq, len⟩ := gs
    obtain ⟨its, vs, tup, _⟩ := inv.tuple sq
    have eq := vs.length
    obtain ⟨z, en⟩ := st.1
    obtain ⟨k0, k1, _, k3, k4, k5⟩ := ok j (by simp)
    -- an iterator at or behind the end
    refine wpAny_mono (Q := fun r s1 => r = none ∧ ∃ g, s1 = { s with heap := g } ∧ Heap.ExtBut j s.heap g) ?_ (fun r s1 h => ?_) (fun _ _ h => h)
    · refine wpAny_pyNext_enum_endD (n := i) (P := fun _ _ => True) (St := fun m h => m = i ∧ h.IsTupleIter j a i ∧ h.IsTuple a its.toArray) (fp := [j, a]) ⟨?_, ?_, ?_, ?_⟩ en ⟨rfl, st.2, tup⟩ fun g ext => ⟨rfl, g, rfl, ext⟩
      · exact fun m h q => q.2.1.imp fun o q => q.1
      · exact fun m h g q kp => ⟨q.1, q.2.1.at fun o x => kp j (by simp) o x, q.2.2.at fun o x => kp a (by simp) o x⟩
      · exact fun m s Q E lt q _ => absurd q.1 (by omega)
      · exact fun s Q E q f => PySem.wpAny_nextOf_tuple_end (A := X.A.in1) (show X.A.in1.handled = none from inv.ok.hd calm) q.2.1 q.2.2 (by simp; omega) f
    · obtain ⟨r0, g, rfl, ext⟩ := h
      exact ⟨r0, inv.turned (t' := s.toks) (fun b o nb x => ext b o nb x) k0 k1 k3 k4 k5⟩
end Nh0
namespace L2
open PySem PySem.Spec PyProof.Rows Nh0
def iEnumT (K : PySem.W.Frag) (ta : TA) : TI := fun σ H R => ta σ H fun vs H1 => ∃ a xs, vs = [.ref a] ∧ SqT K H1 a xs ∧ R (IteT K a) H1
theorem pi_enumT {X : Cx} {e : Expr} {ta : TA} {p pos tpos : Pos} {es : List Expr} {k : Nat} (hg : Gl X "enumerate") (hm : X.mg "enumerate" = none) (ha : PA X [e] ta) (hs : starEach [e] X.env = [(false, eval e X.env)] := by rfl) :
    PI X (.Tuple es k tpos) (.Call (.Name "enumerate" p) [e] [] pos) (iEnumT X.K ta) where
  run pins s σ H R I h := by
    refine Call_ (ld_blt I hg hm boot_enumerate (callWith_type1 (thn (ha.run pos pins s σ H _ I h) ?_) hs rfl))
    rintro us s1 ⟨vs, H1, I1, r1, a, xs, rfl, sq, q⟩
    obtain rfl := Vals.ref1 r1
    obtain ⟨its, _, tup, _⟩ := I1.tuple sq
    have lt : a < s1.heap.objs.size := tup.lt
    refine callE (begins_tuple a its.toArray) tup fun g en it kp => wpAny_pyIter_enum en ⟨s1.heap.objs.size + 1, [s1.heap.objs.size + 1, s1.heap.objs.size], _, _, H1, rfl, I1.kept (t' := s1.toks) kp,
      turnT a _ _ (Nat.ne_of_lt lt) (Nat.ne_of_gt (Nat.lt_succ_of_lt lt)) (Nat.succ_ne_self _), ⟨⟨.none, en⟩, _, it, rfl, rfl⟩, fun b hb => ?_, q⟩
    have le : s1.heap.objs.size ≤ b := by
      rcases List.mem_cons.mp hb with rfl | m
      · exact Nat.le_succ _
      · exact Nat.le_of_eq (List.mem_singleton.mp m).symm
    exact I1.fpOk le (I1.hok.fresh le)
/-- over it -/
theorem for_enumT {K : PySem.W.Frag} {a : Addr} {xs : List V} {g : TG} {tb : TS} {D : Ends} {σ : L2.St} {H : Hp} (Pv : Nat → L2.St → Hp → Prop) (h0 : Pv 0 σ H) (hl : ∀ i σ H, i ≤ xs.length → Pv i σ H → SqT K H a xs)
    (hs : ∀ i x σ H T, xs[i]? = some x → H T = none → Pv i σ H → g (.ref T) σ (upd H T (.tup [.int (i : Nat), x])) fun σ2 H2 => tb { D with nx := Pv (i + 1), ct := Pv (i + 1), bk := D.nx } σ2 H2) (hd : ∀ σ H, Pv xs.length σ H → D.nx σ H) :
    ∃ W : Nat → Nat → L2.St → Hp → Prop, (∃ m, W 0 m σ H) ∧ ∀ i m σ H, W i m σ H → ((IteT K a).stop i H ∧ D.nx σ H) ∨ ((IteT K a).go i H ∧ ∃ N : L2.St → Hp → Prop, (∀ σ' H', N σ' H' → ∃ m', m' < m ∧ W (i + 1) m' σ' H') ∧ ∀ x H', (IteT K a).yld i H x H' → g x σ H' fun σ2 H2 => tb { D with nx := N, ct := N, bk := D.nx } σ2 H2) := by
  refine ⟨fun i m σ H => m + i = xs.length ∧ Pv i σ H, ⟨xs.length, rfl, h0⟩, fun i m σ H ⟨em, p⟩ => ?_⟩
  have q := hl i σ H (by omega) p
  cases m with
  | zero =>
    have ei : i = xs.length := by omega
    exact .inl ⟨⟨xs, q, by omega⟩, hd σ H (ei ▸ p)⟩
  | succ m =>
    have hi : i < xs.length := by omega
    refine .inr ⟨⟨xs, _, q, List.getElem?_eq_getElem hi⟩, Pv (i + 1), fun σ' H' p' => ⟨m, Nat.lt_succ_self m, by omega, p'⟩, ?_⟩
    rintro _ _ ⟨T, x, rfl, nT, rfl, f⟩
    exact hs i x σ H T (f xs q) nT p
/-- sum of a tuple of ints -/
def rSumT (K : PySem.W.Frag) : List V → Hp → VK → Prop := fun vs H Q => ∃ (a : Addr) (ns : List Int), vs = [V.ref a] ∧ SqT K H a (ns.map V.int) ∧ Q (.int ns.sum) H
theorem nh_preSum (ns : List Int) : ∀ k, k ≤ ns.length → preSum (fun i => ns.getD i 0) k = (ns.take k).sum
  | 0, _ => by simp [preSum]
  | k + 1, h => by
    rw [preSum, nh_preSum ns k (by omega), List.take_add_one, List.sum_append]
    have : ns[k]? = some ns[k] := List.getElem?_eq_getElem (by omega)
    rw [this]
    simp [this]
theorem cr_sumT {X : Cx} (hc : X.calm = true) : CallR X (.builtin "sum") (rSumT X.K) := by
  rintro pins s σ H vs us Q I r ⟨a, ns, rfl, hs, q⟩
  obtain ⟨its, rv, hl, _⟩ := I.tuple hs
  rw [Vals.ref1 r]
  have hlen : its.length = ns.length := by have := rv.length; rw [List.length_map] at this; exact this.symm
  have hL : s.heap.IsTuple a its.toArray := hl
  have hal : a < s.heap.objs.size := hl.lt
  refine call_sum_walkG (wpAny_pyIter_tuple hL ?_)
  refine ⟨s.heap.objs.size, [s.heap.objs.size, a], [s.heap.objs.size], its.toArray.size, _, _, fun i => ns.getD i 0, rfl, Walks.tuple (A := X.A.in1) (show X.A.in1.handled = none from I.ok.hd hc) s.heap.objs.size a (Nat.ne_of_lt hal) its.toArray, ⟨⟨_, Heap.get?_push_size _ rfl, rfl, rfl⟩, hL.push _⟩, fun b hb => ?_, fun i v hv => ?_, fun h' tk t' hk => ?_⟩
  · have e' : b = s.heap.objs.size ∨ b = a := by simpa using hb
    rw [show (Shared.heap { s with heap := s.heap.push _ }).objs.size = s.heap.objs.size + 1 from Heap.size_push ..]
    rcases e' with z | z
    · rw [z]; exact Nat.lt_succ_self _
    · rw [z]; exact Nat.lt_succ_of_lt hal
  · have hv' : its[i]? = some v := by simpa using hv
    have hi : i < its.length := by
      obtain ⟨q, _⟩ := List.getElem?_eq_some_iff.mp hv'
      exact q
    have g : (ns.map V.int)[i]? = some (.int ns[i]) := by
      rw [List.getElem?_map, List.getElem?_eq_getElem (by omega)]
      rfl
    obtain ⟨u, hu, ru⟩ := rv.get g
    rw [hv'] at hu
    cases hu
    obtain ⟨t, e⟩ := ru
    refine ⟨t, ?_⟩
    rw [e]
    have : ns.getD i 0 = ns[i] := by simp [List.getD, List.getElem?_eq_getElem (show i < ns.length by omega)]
    show Value.int _ t = Value.int (ns.getD i 0) t
    rw [this]
  · have e1 : preSum (fun i => ns.getD i 0) its.toArray.size = ns.sum := by
      rw [nh_preSum _ _ (by simp; omega)]
      rw [List.take_of_length_le (by simp; omega)]
    rw [e1]
    exact ⟨.int _, H, I.kept fun b o e => hk b o (by
      have := Heap.lt_size e
      intro z
      have z' : b = s.heap.objs.size := by simpa using z
      rw [z'] at this
      exact absurd this (Nat.lt_irrefl _)) (Heap.get?_push_of_some _ e), ⟨_, rfl⟩, q⟩
end L2
/-! plain mathematics: webs, distances, ways -/
namespace Nh
abbrev Road := Nat × Nat × Nat
structure Good (n : Nat) (ws : List Int) (rs : List Road) : Prop where
  n2 : 2 ≤ n
  n8 : n ≤ 8
  wl : ws.length = n
  w : ∀ x ∈ ws, 0 ≤ x ∧ x ≤ 100
  wsum : 0 < ws.sum
  rl : rs.length ≤ 14
  rd : ∀ r ∈ rs, r.1 < r.2.1 ∧ r.2.1 < n ∧ 1 ≤ r.2.2 ∧ r.2.2 ≤ 100
  nd : (rs.map fun r => (r.1, r.2.1)).Nodup
  tree : ∀ b, 1 ≤ b → b < n → ∃ r ∈ rs, r.2.1 = b
abbrev Tab := Nat → Nat → Nat
def set2 (g : Tab) (i j v : Nat) : Tab := fun x y => if x = i ∧ y = j then v else g x y
theorem set2_same {g : Tab} {i j v : Nat} : set2 g i j v i j = v := by simp [set2]
theorem set2_ne {g : Tab} {i j v x y : Nat} (h : ¬ (x = i ∧ y = j)) : set2 g i j v x y = g x y := by simp [set2, h]
def far1 (rs : List Road) : Nat := 1 + (rs.map (fun r => r.2.2)).sum
def init1 (rs : List Road) : Tab := fun i j => if i = j then 0 else far1 rs
def road1 (g : Tab) (r : Road) : Tab := set2 (set2 g r.1 r.2.1 r.2.2) r.2.1 r.1 r.2.2
def fwJ (k i : Nat) (g : Tab) (j : Nat) : Tab := set2 g i j (min (g i j) (g i k + g k j))
def fwI (n k : Nat) (g : Tab) (i : Nat) : Tab := (List.range n).foldl (fwJ k i) g
def fwK (n : Nat) (g : Tab) (k : Nat) : Tab := (List.range n).foldl (fwI n k) g
def FW (n : Nat) (rs : List Road) : Tab := (List.range n).foldl (fwK n) (rs.foldl road1 (init1 rs))
def init2 : Tab := fun i j => if i = j then 0 else 1000000
def bfA (r : Road) (g : Tab) (i : Nat) : Tab := set2 g i r.2.1 (min (g i r.2.1) (g i r.1 + r.2.2))
def bfB (r : Road) (g : Tab) (i : Nat) : Tab := set2 g i r.1 (min (g i r.1) (g i r.2.1 + r.2.2))
def bfI (r : Road) (g : Tab) (i : Nat) : Tab := bfB r (bfA r g i) i
def bfR (n : Nat) (g : Tab) (r : Road) : Tab := (List.range n).foldl (bfI r) g
def bfT (n : Nat) (rs : List Road) (g : Tab) (_ : Nat) : Tab := rs.foldl (bfR n) g
def BF (n : Nat) (rs : List Road) : Tab := (List.range n).foldl (bfT n rs) init2
def Adj (rs : List Road) (x y l : Nat) : Prop := (x, y, l) ∈ rs ∨ (y, x, l) ∈ rs
theorem Adj.symm {rs : List Road} {x y l : Nat} (h : Adj rs x y l) : Adj rs y x l := Or.symm h
theorem Adj.lt {n : Nat} {ws : List Int} {rs : List Road} (G : Good n ws rs) {x y l : Nat} (h : Adj rs x y l) : x < n ∧ y < n ∧ 1 ≤ l ∧ x ≠ y := by
  rcases h with h | h
  · have := G.rd _ h; simp only at this; omega
  · have := G.rd _ h; simp only at this; omega
/-- a walk with its length, grown at its end -/
inductive Wk (rs : List Road) (i : Nat) : Nat → Nat → Prop
  | nil : Wk rs i i 0
  | snoc {p c j l : Nat} (w : Wk rs i p c) (a : Adj rs p j l) : Wk rs i j (c + l)
theorem Wk.trans {rs : List Road} {i j c : Nat} (w : Wk rs i j c) : ∀ {k d : Nat}, Wk rs j k d → Wk rs i k (c + d)
  | _, _, .nil => w
  | _, _, .snoc v a => by
    rw [← Nat.add_assoc]
    exact (Wk.trans w v).snoc a
theorem Wk.front {rs : List Road} {i j c : Nat} (w : Wk rs i j c) : (i = j ∧ c = 0) ∨ ∃ x l c', Adj rs i x l ∧ Wk rs x j c' ∧ c = l + c' := by
  induction w with
  | nil => exact .inl ⟨rfl, rfl⟩
  | @snoc p c j l w a ih =>
    refine .inr ?_
    rcases ih with ⟨e, z⟩ | ⟨x, m, c', h1, h2, h3⟩
    · subst e z
      exact ⟨j, l, 0, a, .nil, by omega⟩
    · exact ⟨x, m, c' + l, h1, h2.snoc a, by omega⟩
/-- what a table of distances is -/
structure IsDist (n : Nat) (rs : List Road) (f : Tab) : Prop where
  zero : ∀ i, i < n → f i i = 0
  tri : ∀ i j k, i < n → j < n → k < n → f i j ≤ f i k + f k j
  adj : ∀ i j l, Adj rs i j l → f i j ≤ l
  walk : ∀ i j, i < n → j < n → Wk rs i j (f i j)
  small : ∀ i j, i < n → j < n → f i j < far1 rs
theorem foldl_inv {α β : Type} (P : β → Prop) (f : β → α → β) : ∀ (l : List α) (b : β), P b → (∀ b a, a ∈ l → P b → P (f b a)) → P (l.foldl f b)
  | [], b, h, _ => h
  | a :: l, b, h, s => foldl_inv P f l (f b a) (s b a List.mem_cons_self h) fun b a' m => s b a' (List.mem_cons_of_mem _ m)
/-- the same with the part that is done -/
theorem foldl_invP {α β : Type} (P : List α → β → Prop) (f : β → α → β) : ∀ (l done : List α) (b : β), P done b → (∀ d a b, a ∈ l → P d b → P (d ++ [a]) (f b a)) → P (done ++ l) (l.foldl f b)
  | [], done, b, h, _ => by rw [List.append_nil]; exact h
  | a :: l, done, b, h, s => by
    have := foldl_invP P f l (done ++ [a]) (f b a) (s done a b List.mem_cons_self h) fun d a' b m => s d a' b (List.mem_cons_of_mem _ m)
    rw [List.append_assoc] at this
    exact this
theorem range_fold {β : Type} (f : β → Nat → β) (n : Nat) (b : β) : (List.range (n + 1)).foldl f b = f ((List.range n).foldl f b) n := by
  rw [List.range_succ, List.foldl_append]
  rfl
theorem range_inv {β : Type} (P : Nat → β → Prop) (f : β → Nat → β) (n : Nat) (b : β) (h0 : P 0 b) (hs : ∀ k b, k < n → P k b → P (k + 1) (f b k)) : P n ((List.range n).foldl f b) := by
  have : ∀ m, m ≤ n → P m ((List.range m).foldl f b) := by
    intro m
    induction m with
    | zero => intro _; exact h0
    | succ m ih => intro h; rw [range_fold]; exact hs m _ (by omega) (ih (by omega))
  exact this n (Nat.le_refl _)
/-! ### the table of the program -/
/-- one stage, at once -/
def stage (k : Nat) (g : Tab) : Tab := fun i j => min (g i j) (g i k + g k j)
theorem fwI_eq {n k i : Nat} {g h : Tab} (hk : k < n) (hi : i < n) (h0 : h k k = 0)
    (hg : ∀ x y, x < n → y < n → g x y = if x < i then stage k h x y else h x y) :
    ∀ x y, x < n → y < n → fwI n k g i x y = if x < i + 1 then stage k h x y else h x y := by
  have key := range_inv (P := fun m u => ∀ x y, x < n → y < n → u x y = if x < i ∨ (x = i ∧ y < m) then stage k h x y else h x y) (fwJ k i) n g
    (by
      intro x y hx hy
      rw [hg x y hx hy]
      by_cases h1 : x < i
      · rw [if_pos h1, if_pos (Or.inl h1)]
      · rw [if_neg h1, if_neg (by omega)])
    (by
      intro m u hm ih x y hx hy
      have r1 : u i m = h i m := by rw [ih i m hi hm, if_neg (by omega)]
      have r2 : u i k = h i k := by
        rw [ih i k hi hk]
        split
        · show min (h i k) (h i k + h k k) = h i k
          rw [h0]; omega
        · rfl
      have r3 : u k m = h k m := by
        rw [ih k m hk hm]
        split
        · show min (h k m) (h k k + h k m) = h k m
          rw [h0]; omega
        · rfl
      unfold fwJ
      by_cases e : x = i ∧ y = m
      · obtain ⟨rfl, rfl⟩ := e
        rw [set2_same, if_pos (by omega), r1, r2, r3]
        rfl
      · rw [set2_ne e, ih x y hx hy]
        by_cases h1 : x < i ∨ (x = i ∧ y < m)
        · rw [if_pos h1, if_pos (by omega)]
        · rw [if_neg h1, if_neg (by omega)])
  intro x y hx hy
  have := key x y hx hy
  show (List.range n).foldl (fwJ k i) g x y = _
  rw [this]
  by_cases h1 : x < i + 1
  · rw [if_pos h1, if_pos (by omega)]
  · rw [if_neg h1, if_neg (by omega)]
theorem fwK_eq {n k : Nat} {h : Tab} (hk : k < n) (h0 : h k k = 0) : ∀ x y, x < n → y < n → fwK n h k x y = stage k h x y := by
  have key := range_inv (P := fun m u => ∀ x y, x < n → y < n → u x y = if x < m then stage k h x y else h x y) (fwI n k) n h
    (by intro x y _ _; rw [if_neg (by omega)])
    (by intro m u hm ih; exact fwI_eq hk hm h0 ih)
  intro x y hx hy
  show (List.range n).foldl (fwI n k) h x y = _
  rw [key x y hx hy, if_pos hx]
/-- what holds of the table ahead of stage k -/
structure St1 (n : Nat) (rs : List Road) (k : Nat) (g : Tab) : Prop where
  zero : ∀ i, i < n → g i i = 0
  tri : ∀ i j m, i < n → j < n → m < k → m < n → g i j ≤ g i m + g m j
  adj : ∀ i j l, Adj rs i j l → g i j ≤ l
  le : ∀ i j, i < n → j < n → g i j ≤ far1 rs
  walk : ∀ i j, i < n → j < n → g i j < far1 rs → Wk rs i j (g i j)
theorem st1_stage {n k : Nat} {rs : List Road} {g : Tab} (hb : ∀ x y l, Adj rs x y l → x < n ∧ y < n) (hk : k < n) (S : St1 n rs k g) : St1 n rs (k + 1) (stage k g) where
  zero := fun i hi => by show min (g i i) _ = 0; rw [S.zero i hi]; omega
  tri := fun i j m hi hj hm hmn => by
    show min (g i j) (g i k + g k j) ≤ min (g i m) (g i k + g k m) + min (g m j) (g m k + g k j)
    have z := S.zero k hk
    by_cases e : m = k
    · subst e
      rw [z]
      omega
    · have h1 := S.tri i j m hi hj (by omega) hmn
      have h2 := S.tri k j m hk hj (by omega) hmn
      have h3 := S.tri i k m hi hk (by omega) hmn
      omega
  adj := fun i j l a => by
    have := S.adj i j l a
    show min (g i j) _ ≤ l
    omega
  le := fun i j hi hj => by
    have := S.le i j hi hj
    show min (g i j) _ ≤ _
    omega
  walk := fun i j hi hj h => by
    have h' : min (g i j) (g i k + g k j) < far1 rs := h
    show Wk rs i j (min (g i j) (g i k + g k j))
    by_cases e : g i j ≤ g i k + g k j
    · rw [Nat.min_eq_left e] at h' ⊢
      exact S.walk i j hi hj h'
    · have e' : g i k + g k j ≤ g i j := by omega
      rw [Nat.min_eq_right e'] at h' ⊢
      exact (S.walk i k hi hk (by omega)).trans (S.walk k j hk hj (by omega))
theorem St1.congr {n k : Nat} {rs : List Road} {g u : Tab} (hb : ∀ x y l, Adj rs x y l → x < n ∧ y < n) (S : St1 n rs k g) (e : ∀ x y, x < n → y < n → u x y = g x y) : St1 n rs k u where
  zero := fun i hi => by rw [e i i hi hi]; exact S.zero i hi
  tri := fun i j m hi hj hm hmn => by rw [e i j hi hj, e i m hi hmn, e m j hmn hj]; exact S.tri i j m hi hj hm hmn
  adj := fun i j l a => by rw [e i j (hb _ _ _ a).1 (hb _ _ _ a).2]; exact S.adj i j l a
  le := fun i j hi hj => by rw [e i j hi hj]; exact S.le i j hi hj
  walk := fun i j hi hj h => by rw [e i j hi hj] at h ⊢; exact S.walk i j hi hj h
theorem len_le_sum : ∀ {rs : List Road} {r : Road}, r ∈ rs → r.2.2 ≤ (rs.map (fun r => r.2.2)).sum
  | s :: rs, r, h => by
    rw [List.map_cons, List.sum_cons]
    rcases List.mem_cons.mp h with rfl | h
    · omega
    · have := len_le_sum h
      omega
theorem adj_far {rs : List Road} {x y l : Nat} (h : Adj rs x y l) : l < far1 rs := by
  unfold far1
  rcases h with h | h <;> (have := len_le_sum h; simp only at this; omega)
theorem mem_take {rs : List Road} {r : Road} {k : Nat} (h : r ∈ rs.take k) : r ∈ rs := List.mem_of_mem_take h
theorem road1_val (g : Tab) (r : Road) (i j : Nat) : road1 g r i j = if (i = r.2.1 ∧ j = r.1) ∨ (i = r.1 ∧ j = r.2.1) then r.2.2 else g i j := by
  unfold road1
  by_cases e : i = r.2.1 ∧ j = r.1
  · rw [if_pos (Or.inl e)]; obtain ⟨rfl, rfl⟩ := e; rw [set2_same]
  · rw [set2_ne e]
    by_cases e2 : i = r.1 ∧ j = r.2.1
    · rw [if_pos (Or.inr e2)]; obtain ⟨rfl, rfl⟩ := e2; rw [set2_same]
    · rw [set2_ne e2, if_neg (by omega)]
theorem fold_road : ∀ (rs : List Road) (g : Tab), (rs.map fun r => (r.1, r.2.1)).Nodup → (∀ r ∈ rs, r.1 < r.2.1) →
    (∀ r ∈ rs, rs.foldl road1 g r.1 r.2.1 = r.2.2 ∧ rs.foldl road1 g r.2.1 r.1 = r.2.2) ∧
    (∀ i j, (∀ r ∈ rs, ¬ ((i = r.2.1 ∧ j = r.1) ∨ (i = r.1 ∧ j = r.2.1))) → rs.foldl road1 g i j = g i j)
  | [], g, _, _ => ⟨(fun r h => by cases h), fun i j _ => rfl⟩
  | r :: rs, g, nd, lt => by
    rw [List.map_cons, List.nodup_cons] at nd
    obtain ⟨h1, h2⟩ := fold_road rs (road1 g r) nd.2 fun r h => lt r (List.mem_cons_of_mem _ h)
    have hr := lt r List.mem_cons_self
    have off : ∀ r' ∈ rs, ¬ (r.1 = r'.1 ∧ r.2.1 = r'.2.1) := fun r' h e => nd.1 (List.mem_map.mpr ⟨r', h, by rw [e.1, e.2]⟩)
    have off' : ∀ i j, ((i = r.2.1 ∧ j = r.1) ∨ (i = r.1 ∧ j = r.2.1)) → ∀ r' ∈ rs, ¬ ((i = r'.2.1 ∧ j = r'.1) ∨ (i = r'.1 ∧ j = r'.2.1)) := fun i j e r' h => by
      have q := off r' h
      have q2 := lt r' (List.mem_cons_of_mem _ h)
      omega
    refine ⟨fun r' h => ?_, fun i j h => ?_⟩
    · rcases List.mem_cons.mp h with rfl | h
      · rw [List.foldl_cons, h2 _ _ (off' _ _ (Or.inr ⟨rfl, rfl⟩)), h2 _ _ (off' _ _ (Or.inl ⟨rfl, rfl⟩)), road1_val, road1_val, if_pos (Or.inr ⟨rfl, rfl⟩), if_pos (Or.inl ⟨rfl, rfl⟩)]
        exact ⟨rfl, rfl⟩
      · exact h1 r' h
    · rw [List.foldl_cons, h2 i j fun r' m => h r' (List.mem_cons_of_mem _ m), road1_val, if_neg (h r List.mem_cons_self)]
theorem st1_init {n : Nat} {ws : List Int} {rs : List Road} (G : Good n ws rs) : St1 n rs 0 (rs.foldl road1 (init1 rs)) := by
  obtain ⟨h1, h2⟩ := fold_road rs (init1 rs) G.nd fun r h => (G.rd r h).1
  have adj : ∀ i j l, Adj rs i j l → rs.foldl road1 (init1 rs) i j = l := fun i j l a => by
    rcases a with a | a
    · exact (h1 _ a).1
    · exact (h1 _ a).2
  have cs : ∀ i j, (∃ l, Adj rs i j l) ∨ rs.foldl road1 (init1 rs) i j = init1 rs i j := fun i j => by
    by_cases e : ∃ r ∈ rs, (i = r.2.1 ∧ j = r.1) ∨ (i = r.1 ∧ j = r.2.1)
    · obtain ⟨⟨a, b, l⟩, hr, e⟩ := e
      simp only at e
      refine .inl ⟨l, ?_⟩
      rcases e with ⟨rfl, rfl⟩ | ⟨rfl, rfl⟩
      · exact .inr hr
      · exact .inl hr
    · exact .inr (h2 i j fun r hr z => e ⟨r, hr, z⟩)
  refine ⟨fun i hi => ?_, fun i j m _ _ hm => by omega, fun i j l a => Nat.le_of_eq (adj i j l a), fun i j hi hj => ?_, fun i j hi hj h => ?_⟩
  · rcases cs i i with ⟨l, a⟩ | e
    · exact absurd rfl (a.lt G).2.2.2
    · rw [e]; simp [init1]
  · rcases cs i j with ⟨l, a⟩ | e
    · rw [adj i j l a]; exact Nat.le_of_lt (adj_far a)
    · rw [e]; unfold init1; split <;> omega
  · rcases cs i j with ⟨l, a⟩ | e
    · rw [adj i j l a]
      have w : Wk rs i j (0 + l) := Wk.nil.snoc a
      rw [Nat.zero_add] at w
      exact w
    · rw [e] at h ⊢
      unfold init1 at h ⊢
      by_cases q : i = j
      · rw [if_pos q]; subst q; exact .nil
      · rw [if_neg q] at h; omega
/-- the tree binds all within its lengths -/
def upto (rs : List Road) (m : Nat) : Nat := ((rs.filter (fun r => decide (r.2.1 ≤ m))).map (fun r => r.2.2)).sum
theorem upto_le (m : Nat) : ∀ rs : List Road, upto rs m ≤ (rs.map (fun r => r.2.2)).sum
  | [] => Nat.le_refl _
  | r :: rs => by
    have ih := upto_le m rs
    unfold upto at ih ⊢
    rw [List.filter_cons, List.map_cons, List.sum_cons]
    split
    · rw [List.map_cons, List.sum_cons]; omega
    · omega
theorem upto_mono (m : Nat) : ∀ rs : List Road, upto rs m ≤ upto rs (m + 1)
  | [] => Nat.le_refl _
  | r :: rs => by
    have ih := upto_mono m rs
    unfold upto at ih ⊢
    rw [List.filter_cons, List.filter_cons]
    by_cases h : r.2.1 ≤ m
    · rw [if_pos (by simpa using h), if_pos (by simp; omega), List.map_cons, List.map_cons, List.sum_cons, List.sum_cons]; omega
    · rw [if_neg (by simpa using h)]
      split
      · rw [List.map_cons, List.sum_cons]; omega
      · exact ih
theorem upto_add (m : Nat) : ∀ {rs : List Road} {r : Road}, r ∈ rs → r.2.1 = m + 1 → upto rs m + r.2.2 ≤ upto rs (m + 1)
  | s :: rs, r, h, e => by
    have mono := upto_mono m rs
    have ih := fun h => upto_add m (rs := rs) (r := r) h e
    unfold upto at ih mono ⊢
    rw [List.filter_cons, List.filter_cons]
    rcases List.mem_cons.mp h with rfl | h
    · rw [if_neg (by simp; omega), if_pos (by simp; omega), List.map_cons, List.sum_cons]
      omega
    · have ih := ih h
      by_cases q : s.2.1 ≤ m
      · rw [if_pos (by simpa using q), if_pos (by simp; omega), List.map_cons, List.map_cons, List.sum_cons, List.sum_cons]; omega
      · rw [if_neg (by simpa using q)]
        split
        · rw [List.map_cons, List.sum_cons]; omega
        · exact ih
theorem FW_dist {n : Nat} {ws : List Int} {rs : List Road} (G : Good n ws rs) : IsDist n rs (FW n rs) := by
  have hb : ∀ x y l, Adj rs x y l → x < n ∧ y < n := fun x y l a => ⟨(a.lt G).1, (a.lt G).2.1⟩
  have S : St1 n rs n (FW n rs) := range_inv (P := fun k g => St1 n rs k g) (fwK n) n _ (st1_init G) fun k g hk S =>
    (st1_stage hb hk S).congr hb (fwK_eq hk (S.zero k hk))
  have near : ∀ m, m < n → ∀ i j, i ≤ m → j ≤ m → FW n rs i j ≤ upto rs m := by
    intro m
    induction m with
    | zero =>
      intro hm i j hi hj
      have e1 : i = 0 := by omega
      have e2 : j = 0 := by omega
      subst e1 e2
      rw [S.zero 0 hm]
      exact Nat.zero_le _
    | succ m ih =>
      intro hm i j hi hj
      obtain ⟨⟨a, b, l⟩, hr, e⟩ := G.tree (m + 1) (by omega) hm
      simp only at e
      subst e
      have R := G.rd _ hr
      simp only at R
      have U := upto_add m hr rfl
      have M := upto_mono m rs
      simp only at U
      have ih := ih (by omega)
      have a1 : FW n rs a (m + 1) ≤ l := S.adj _ _ _ (.inl hr)
      have a2 : FW n rs (m + 1) a ≤ l := S.adj _ _ _ (.inr hr)
      by_cases ei : i = m + 1
      · by_cases ej : j = m + 1
        · subst ei ej
          rw [S.zero _ hm]
          exact Nat.zero_le _
        · subst ei
          have t := S.tri (m + 1) j a hm (by omega) (by omega) (by omega)
          have := ih a j (by omega) (by omega)
          omega
      · by_cases ej : j = m + 1
        · subst ej
          have t := S.tri i (m + 1) a (by omega) hm (by omega) (by omega)
          have := ih i a (by omega) (by omega)
          omega
        · have := ih i j (by omega) (by omega)
          omega
  have small : ∀ i j, i < n → j < n → FW n rs i j < far1 rs := fun i j hi hj => by
    have h1 := near (n - 1) (by omega) i j (by omega) (by omega)
    have h2 := upto_le (n - 1) rs
    unfold far1
    omega
  exact ⟨S.zero, fun i j k hi hj hk => S.tri i j k hi hj hk hk, S.adj, fun i j hi hj => S.walk i j hi hj (small i j hi hj), small⟩
/-! ### the law's table -/
section
variable {n : Nat} {ws : List Int} {rs : List Road} {f : Tab}
theorem IsDist.le_walk (G : Good n ws rs) (F : IsDist n rs f) {i j c : Nat} (hi : i < n) (w : Wk rs i j c) : f i j ≤ c ∧ j < n := by
  induction w with
  | nil => exact ⟨by rw [F.zero i hi]; exact Nat.le_refl _, hi⟩
  | @snoc p c j l w a ih =>
    have L := a.lt G
    have t := F.tri i j p hi L.2.1 L.1
    have := F.adj p j l a
    exact ⟨by omega, L.2.1⟩
theorem IsDist.last (G : Good n ws rs) (F : IsDist n rs f) {i j : Nat} (hi : i < n) (hj : j < n) (ne : i ≠ j) : ∃ p l, Adj rs p j l ∧ f i p + l = f i j := by
  have w := F.walk i j hi hj
  generalize e : f i j = c at w
  cases w with
  | nil => exact absurd rfl ne
  | @snoc p c _ l w a =>
    have h1 := (F.le_walk G hi w).1
    have L := a.lt G
    have t := F.tri i j p hi hj L.1
    have := F.adj p j l a
    exact ⟨p, l, a, by omega⟩
theorem IsDist.first (G : Good n ws rs) (F : IsDist n rs f) {i j : Nat} (hi : i < n) (hj : j < n) (ne : i ≠ j) : ∃ x l, Adj rs i x l ∧ l + f x j = f i j := by
  rcases (F.walk i j hi hj).front with ⟨e, _⟩ | ⟨x, l, c, a, w, e⟩
  · exact absurd e ne
  · have L := a.lt G
    have h1 := (F.le_walk G L.2.1 w).1
    have t := F.tri i j x hi hj L.2.1
    have := F.adj i x l a
    exact ⟨x, l, a, by omega⟩
/-- how many points are nearer to i than j -/
def rank (n : Nat) (f : Tab) (i j : Nat) : Nat := ((List.range n).filter fun v => decide (f i v < f i j)).length
theorem rank_lt (F : ∀ i, i < n → f i i = 0) {i p j : Nat} (hp : p < n) (h : f i p < f i j) : rank n f i p < rank n f i j := by
  unfold rank
  have : ∀ (l : List Nat), p ∈ l → (l.filter fun v => decide (f i v < f i p)).length < (l.filter fun v => decide (f i v < f i j)).length := by
    intro l
    have le : ∀ l : List Nat, (l.filter fun v => decide (f i v < f i p)).length ≤ (l.filter fun v => decide (f i v < f i j)).length := by
      intro l
      induction l with
      | nil => exact Nat.le_refl _
      | cons v l ih =>
        rw [List.filter_cons, List.filter_cons]
        by_cases q : f i v < f i p
        · rw [if_pos (by simpa using q), if_pos (by simp; omega), List.length_cons, List.length_cons]; omega
        · rw [if_neg (by simpa using q)]
          split
          · rw [List.length_cons]; omega
          · exact ih
    induction l with
    | nil => intro h; cases h
    | cons v l ih =>
      intro m
      rw [List.filter_cons, List.filter_cons]
      rcases List.mem_cons.mp m with rfl | m
      · rw [if_neg (by simp), if_pos (by simpa using h), List.length_cons]
        have := le l
        omega
      · have ih := ih m
        by_cases q : f i v < f i p
        · rw [if_pos (by simpa using q), if_pos (by simp; omega), List.length_cons, List.length_cons]; omega
        · rw [if_neg (by simpa using q)]
          split
          · rw [List.length_cons]; omega
          · exact ih
  exact this _ (List.mem_range.mpr hp)
theorem filter_lt {p : Nat → Bool} {j : Nat} (h : p j = false) : ∀ l : List Nat, j ∈ l → (l.filter p).length < l.length
  | v :: l, m => by
    rw [List.filter_cons]
    have le := List.length_filter_le p l
    rcases List.mem_cons.mp m with rfl | m
    · rw [if_neg (by simp [h]), List.length_cons]; omega
    · have := filter_lt h l m
      split
      · rw [List.length_cons, List.length_cons]; omega
      · rw [List.length_cons]; omega
theorem rank_n {i j : Nat} (hj : j < n) : rank n f i j < n := by
  have := filter_lt (p := fun v => decide (f i v < f i j)) (j := j) (by simp) (List.range n) (List.mem_range.mpr hj)
  rw [List.length_range] at this
  exact this
/-- behind t rounds -/
structure St2 (n : Nat) (f : Tab) (t : Nat) (g : Tab) : Prop where
  ge : ∀ i j, i < n → j < n → f i j ≤ g i j
  le : ∀ i j, i < n → j < n → rank n f i j ≤ t → g i j ≤ f i j
/-- a road has been gone from i -/
def Gone (n : Nat) (f : Tab) (t : Nat) (g : Tab) (r : Road) (i : Nat) : Prop :=
  (rank n f i r.1 ≤ t → g i r.2.1 ≤ f i r.1 + r.2.2) ∧ (rank n f i r.2.1 ≤ t → g i r.1 ≤ f i r.2.1 + r.2.2)
theorem Gone.mono {t : Nat} {g u : Tab} {r : Road} {i : Nat} (h : Gone n f t g r i) (le : ∀ j, u i j ≤ g i j) : Gone n f t u r i :=
  ⟨fun q => Nat.le_trans (le _) (h.1 q), fun q => Nat.le_trans (le _) (h.2 q)⟩
theorem bfI_le (r : Road) (g : Tab) (i x y : Nat) : bfI r g i x y ≤ g x y := by
  have a : ∀ (g : Tab) x y, bfA r g i x y ≤ g x y := fun g x y => by
    unfold bfA
    by_cases e : x = i ∧ y = r.2.1
    · obtain ⟨rfl, rfl⟩ := e; rw [set2_same]; omega
    · rw [set2_ne e]; exact Nat.le_refl _
  have b : ∀ (g : Tab) x y, bfB r g i x y ≤ g x y := fun g x y => by
    unfold bfB
    by_cases e : x = i ∧ y = r.1
    · obtain ⟨rfl, rfl⟩ := e; rw [set2_same]; omega
    · rw [set2_ne e]; exact Nat.le_refl _
  exact Nat.le_trans (b _ x y) (a g x y)
theorem bfI_ok (G : Good n ws rs) (F : IsDist n rs f) {t i : Nat} {r : Road} {g : Tab} (hr : r ∈ rs) (hi : i < n) (S : St2 n f t g) : St2 n f t (bfI r g i) ∧ Gone n f t (bfI r g i) r i := by
  obtain ⟨a, b, l⟩ := r
  have R := G.rd _ hr
  simp only at R
  have le := bfI_le (a, b, l) g i
  have tb := F.tri i b a hi R.2.1 (by omega)
  have ta := F.tri i a b hi (by omega) R.2.1
  have ab : f a b ≤ l := F.adj _ _ _ (.inl hr)
  have ba : f b a ≤ l := F.adj _ _ _ (.inr hr)
  have ga := S.ge i a hi (by omega)
  have gb := S.ge i b hi R.2.1
  have vb : bfI (a, b, l) g i i b = min (g i b) (g i a + l) := by
    unfold bfI bfB bfA
    rw [set2_ne (by omega), set2_same]
  have va : bfI (a, b, l) g i i a = min (g i a) (min (g i b) (g i a + l) + l) := by
    unfold bfI bfB bfA
    rw [set2_same, set2_ne (by simp only; omega), set2_same]
  have vo : ∀ x y, ¬ (x = i ∧ y = a) → ¬ (x = i ∧ y = b) → bfI (a, b, l) g i x y = g x y := fun x y h1 h2 => by
    unfold bfI bfB bfA
    rw [set2_ne h1, set2_ne h2]
  refine ⟨⟨fun x y hx hy => ?_, fun x y hx hy q => Nat.le_trans (le x y) (S.le x y hx hy q)⟩, fun q => ?_, fun q => ?_⟩
  · by_cases e1 : x = i ∧ y = a
    · obtain ⟨rfl, rfl⟩ := e1; rw [va]; omega
    · by_cases e2 : x = i ∧ y = b
      · obtain ⟨rfl, rfl⟩ := e2; rw [vb]; omega
      · rw [vo x y e1 e2]; exact S.ge x y hx hy
  · have := S.le i a hi (by omega) q
    rw [vb]
    show min _ _ ≤ f i a + l
    omega
  · have := S.le i b hi R.2.1 q
    rw [va]
    show min _ _ ≤ f i b + l
    omega
theorem bfR_ok (G : Good n ws rs) (F : IsDist n rs f) {t : Nat} {r : Road} {g : Tab} (hr : r ∈ rs) (S : St2 n f t g) : St2 n f t (bfR n g r) ∧ (∀ x y, bfR n g r x y ≤ g x y) ∧ ∀ i, i < n → Gone n f t (bfR n g r) r i := by
  refine range_inv (P := fun m u => St2 n f t u ∧ (∀ x y, u x y ≤ g x y) ∧ ∀ i, i < m → Gone n f t u r i) (bfI r) n g ⟨S, fun _ _ => Nat.le_refl _, fun i h => absurd h (Nat.not_lt_zero _)⟩ fun m u hm ⟨S, le, go⟩ => ?_
  obtain ⟨S', go'⟩ := bfI_ok G F hr hm S
  refine ⟨S', fun x y => Nat.le_trans (bfI_le r u m x y) (le x y), fun i hi => ?_⟩
  by_cases e : i = m
  · subst e; exact go'
  · exact (go i (by omega)).mono fun j => bfI_le r u m i j
theorem bfT_ok (G : Good n ws rs) (F : IsDist n rs f) {t t' : Nat} {g : Tab} (S : St2 n f t g) : St2 n f (t + 1) (bfT n rs g t') := by
  have key := foldl_invP (P := fun (d : List Road) (u : Tab) => St2 n f t u ∧ ∀ r ∈ d, ∀ i, i < n → Gone n f t u r i) (bfR n) rs [] g ⟨S, fun r h => by cases h⟩
    (fun d r u hr ⟨S, go⟩ => by
      obtain ⟨S', le, go'⟩ := bfR_ok G F hr S
      refine ⟨S', fun r' h i hi => ?_⟩
      rcases List.mem_append.mp h with h | h
      · exact (go r' h i hi).mono fun j => le i j
      · rw [List.mem_singleton.mp h]; exact go' i hi)
  rw [List.nil_append] at key
  obtain ⟨S', go⟩ := key
  refine ⟨S'.ge, fun i j hi hj q => ?_⟩
  show rs.foldl (bfR n) g i j ≤ f i j
  by_cases h : rank n f i j ≤ t
  · exact S'.le i j hi hj h
  · by_cases e : i = j
    · subst e
      have z := F.zero i hi
      exfalso
      apply h
      unfold rank
      rw [List.filter_eq_nil_iff.mpr (fun v _ => by rw [z]; simp)]
      exact Nat.zero_le _
    · obtain ⟨p, l, a, ep⟩ := F.last G hi hj e
      have L := a.lt G
      have rk := rank_lt (f := f) (i := i) (p := p) (j := j) F.zero L.1 (by omega)
      rcases a with a | a
      · have := (go _ a i hi).1 (by simp only; omega)
        simp only at this
        omega
      · have := (go _ a i hi).2 (by simp only; omega)
        simp only at this
        omega
theorem BF_eq (G : Good n ws rs) (F : IsDist n rs f) (hf : far1 rs ≤ 1000000) : ∀ i j, i < n → j < n → BF n rs i j = f i j := by
  have S : St2 n f n (BF n rs) := range_inv (P := fun t u => St2 n f t u) (bfT n rs) n init2
    ⟨fun i j hi hj => by
      unfold init2
      have := F.small i j hi hj
      split
      · rename_i e; subst e; rw [F.zero i hi]; exact Nat.zero_le _
      · omega,
    fun i j hi hj q => by
      unfold init2
      split
      · exact Nat.zero_le _
      · rename_i e
        exfalso
        obtain ⟨p, l, a, ep⟩ := F.last G hi hj e
        have rk := rank_lt (f := f) (i := i) (p := p) (j := j) F.zero (a.lt G).1 (by have := (a.lt G).2.2.1; omega)
        omega⟩
    fun t u ht S => bfT_ok G F S
  intro i j hi hj
  have h1 := S.ge i j hi hj
  have h2 := S.le i j hi hj (Nat.le_of_lt (rank_n hj))
  omega
theorem sum_small : ∀ {rs : List Road}, (∀ r ∈ rs, r.2.2 ≤ 100) → (rs.map (fun r => r.2.2)).sum ≤ 100 * rs.length
  | [], _ => Nat.le_refl _
  | r :: rs, h => by
    have := sum_small (rs := rs) fun r m => h r (List.mem_cons_of_mem _ m)
    have h1 := h r List.mem_cons_self
    rw [List.map_cons, List.sum_cons, List.length_cons]
    omega
theorem far1_small (G : Good n ws rs) : far1 rs ≤ 1401 := by
  have h1 := sum_small (rs := rs) fun r h => (G.rd r h).2.2.2
  have h2 := G.rl
  unfold far1
  omega
end
end Nh
/-! plain mathematics: ways -/
namespace Nh
/-- order of tuples -/
def lx : List Nat → List Nat → Bool
  | [], [] => false
  | [], _ :: _ => true
  | _ :: _, [] => false
  | x :: xs, y :: ys => if x = y then lx xs ys else decide (x < y)
theorem lx_irrefl : ∀ p : List Nat, lx p p = false
  | [] => rfl
  | x :: p => by rw [lx, if_pos rfl]; exact lx_irrefl p
theorem lx_trans : ∀ {p q r : List Nat}, lx p q = true → lx q r = true → lx p r = true
  | [], [], _, h, _ => by cases h
  | [], _ :: _, [], _, h => by cases h
  | [], _ :: _, _ :: _, _, _ => rfl
  | _ :: _, [], _, h, _ => by cases h
  | _ :: _, _ :: _, [], _, h => by cases h
  | x :: p, y :: q, z :: r, h1, h2 => by
    rw [lx] at h1 h2 ⊢
    by_cases e1 : x = y
    · rw [if_pos e1] at h1
      by_cases e2 : y = z
      · rw [if_pos e2] at h2
        rw [if_pos (e1.trans e2)]
        exact lx_trans h1 h2
      · rw [if_neg e2] at h2
        rw [if_neg (by rw [e1]; exact e2), e1]
        exact h2
    · rw [if_neg e1] at h1
      have h1' := of_decide_eq_true h1
      by_cases e2 : y = z
      · rw [if_neg (by rw [← e2]; exact e1), ← e2]
        exact h1
      · rw [if_neg e2] at h2
        have h2' := of_decide_eq_true h2
        rw [if_neg (by omega)]
        exact decide_eq_true (by omega)
theorem lx_less : ∀ (q r1 r2 : List Nat) {y z : Nat}, y < z → lx (q ++ y :: r1) (q ++ z :: r2) = true
  | [], r1, r2, y, z, h => by
    show (if y = z then _ else decide (y < z)) = true
    rw [if_neg (by omega)]
    exact decide_eq_true h
  | x :: q, r1, r2, y, z, h => by
    show (if x = x then lx (q ++ y :: r1) (q ++ z :: r2) else _) = true
    rw [if_pos rfl]
    exact lx_less q r1 r2 h
/-! ### roads at a point -/
def nb (u : Nat) (r : Road) : List (Nat × Nat) := (if r.1 = u then [(r.2.1, r.2.2)] else []) ++ (if r.2.1 = u then [(r.1, r.2.2)] else [])
def nbs (rs : List Road) (u : Nat) : List (Nat × Nat) := rs.flatMap (nb u)
def lsA (rs : List Road) (u : Nat) : List (Nat × Nat) := (rs.filter (fun r => decide (r.1 = u))).map (fun r => (r.2.1, r.2.2))
def lsB (rs : List Road) (u : Nat) : List (Nat × Nat) := (rs.filter (fun r => decide (r.2.1 = u))).map (fun r => (r.1, r.2.2))
def lsteps (rs : List Road) (u : Nat) : List (Nat × Nat) := lsA rs u ++ lsB rs u
theorem mem_nbs {rs : List Road} {u : Nat} {s : Nat × Nat} : s ∈ nbs rs u ↔ Adj rs u s.1 s.2 := by
  obtain ⟨y, l⟩ := s
  unfold nbs Adj
  rw [List.mem_flatMap]
  constructor
  · rintro ⟨⟨a, b, m⟩, hr, h⟩
    unfold nb at h
    simp only at h
    rcases List.mem_append.mp h with h | h
    · split at h
      · rename_i e
        rw [List.mem_singleton] at h
        cases h
        subst e
        exact .inl hr
      · cases h
    · split at h
      · rename_i e
        rw [List.mem_singleton] at h
        cases h
        subst e
        exact .inr hr
      · cases h
  · rintro (h | h)
    · exact ⟨_, h, by unfold nb; simp⟩
    · exact ⟨_, h, by unfold nb; simp⟩
theorem mem_lsteps {rs : List Road} {u : Nat} {s : Nat × Nat} : s ∈ lsteps rs u ↔ Adj rs u s.1 s.2 := by
  obtain ⟨y, l⟩ := s
  unfold lsteps lsA lsB Adj
  rw [List.mem_append, List.mem_map, List.mem_map]
  constructor
  · rintro (⟨⟨a, b, m⟩, hr, h⟩ | ⟨⟨a, b, m⟩, hr, h⟩)
    · rw [List.mem_filter] at hr
      have e := of_decide_eq_true hr.2
      cases h
      simp only at e
      subst e
      exact .inl hr.1
    · rw [List.mem_filter] at hr
      have e := of_decide_eq_true hr.2
      cases h
      simp only at e
      subst e
      exact .inr hr.1
  · rintro (h | h)
    · exact .inl ⟨_, List.mem_filter.mpr ⟨h, by simp⟩, rfl⟩
    · exact .inr ⟨_, List.mem_filter.mpr ⟨h, by simp⟩, rfl⟩
theorem nodup_len : ∀ (n : Nat) (l : List Nat), l.Nodup → (∀ v ∈ l, v < n) → l.length ≤ n
  | 0, [], _, _ => Nat.le_refl _
  | 0, v :: l, _, h => absurd (h v List.mem_cons_self) (Nat.not_lt_zero _)
  | n + 1, l, nd, h => by
    have ih := nodup_len n (l.erase n) (nd.erase n) fun v m => by
      have m' := (nd.mem_erase_iff).mp m
      have := h v m'.2
      have := m'.1
      omega
    rw [List.length_erase] at ih
    split at ih <;> omega
theorem nodup_append' {l m : List Nat} (h1 : l.Nodup) (h2 : m.Nodup) (h : ∀ x ∈ l, x ∉ m) : (l ++ m).Nodup := by
  rw [List.nodup_append]
  exact ⟨h1, h2, fun x hx y hy e => h x hx (by rw [e]; exact hy)⟩
section
variable {n : Nat} {ws : List Int} {rs : List Road} {f : Tab}
theorem nodup_lsA : ∀ {rs : List Road} (u : Nat), (rs.map fun r => (r.1, r.2.1)).Nodup → ((lsA rs u).map (·.1)).Nodup
  | [], u, _ => List.nodup_nil
  | r :: rs, u, nd => by
    rw [List.map_cons, List.nodup_cons] at nd
    have ih := nodup_lsA u nd.2
    unfold lsA at ih ⊢
    rw [List.filter_cons]
    split
    · rename_i e
      have e := of_decide_eq_true e
      rw [List.map_cons, List.map_cons, List.nodup_cons]
      refine ⟨fun m => nd.1 ?_, ih⟩
      rw [List.mem_map] at m
      obtain ⟨s, hs, q⟩ := m
      rw [List.mem_map] at hs
      obtain ⟨r', hr', q'⟩ := hs
      rw [List.mem_filter] at hr'
      have e' := of_decide_eq_true hr'.2
      refine List.mem_map.mpr ⟨r', hr'.1, ?_⟩
      rw [← q'] at q
      simp only at q
      rw [e, e', q]
    · exact ih
theorem nodup_lsB : ∀ {rs : List Road} (u : Nat), (rs.map fun r => (r.1, r.2.1)).Nodup → ((lsB rs u).map (·.1)).Nodup
  | [], u, _ => List.nodup_nil
  | r :: rs, u, nd => by
    rw [List.map_cons, List.nodup_cons] at nd
    have ih := nodup_lsB u nd.2
    unfold lsB at ih ⊢
    rw [List.filter_cons]
    split
    · rename_i e
      have e := of_decide_eq_true e
      rw [List.map_cons, List.map_cons, List.nodup_cons]
      refine ⟨fun m => nd.1 ?_, ih⟩
      rw [List.mem_map] at m
      obtain ⟨s, hs, q⟩ := m
      rw [List.mem_map] at hs
      obtain ⟨r', hr', q'⟩ := hs
      rw [List.mem_filter] at hr'
      have e' := of_decide_eq_true hr'.2
      refine List.mem_map.mpr ⟨r', hr'.1, ?_⟩
      rw [← q'] at q
      simp only at q
      rw [e, e', q]
    · exact ih
theorem lsteps_len (G : Good n ws rs) (u : Nat) : (lsteps rs u).length ≤ 8 := by
  have nd : ((lsteps rs u).map (·.1)).Nodup := by
    unfold lsteps
    rw [List.map_append]
    refine nodup_append' (nodup_lsA u G.nd) (nodup_lsB u G.nd) fun x h1 h2 => ?_
    rw [List.mem_map] at h1 h2
    obtain ⟨s, h1, e1⟩ := h1
    obtain ⟨t, h2, e2⟩ := h2
    unfold lsA at h1
    unfold lsB at h2
    rw [List.mem_map] at h1 h2
    obtain ⟨r, h1, q1⟩ := h1
    obtain ⟨r', h2, q2⟩ := h2
    rw [List.mem_filter] at h1 h2
    have d1 := of_decide_eq_true h1.2
    have d2 := of_decide_eq_true h2.2
    have R1 := G.rd _ h1.1
    have R2 := G.rd _ h2.1
    rw [← q1] at e1
    rw [← q2] at e2
    simp only at e1 e2
    omega
  have := nodup_len n _ nd fun v m => by
    rw [List.mem_map] at m
    obtain ⟨s, m, e⟩ := m
    have := ((mem_lsteps.mp m).lt G).2.1
    omega
  rw [List.length_map] at this
  have := G.n8
  omega
/-! ### chains -/
/-- a step that loses nothing -/
def Tt (rs : List Road) (f : Tab) (b x y : Nat) : Prop := ∃ l, Adj rs x y l ∧ l + f y b = f x b
inductive Ch (R : Nat → Nat → Prop) (a : Nat) : List Nat → Nat → Prop
  | one : Ch R a [a] a
  | snoc {p : List Nat} {x y : Nat} (c : Ch R a p x) (t : R x y) : Ch R a (p ++ [y]) y
inductive GCh (R : Nat → Nat → Prop) (b a : Nat) : List Nat → Nat → Prop
  | one : GCh R b a [a] a
  | snoc {p : List Nat} {x y : Nat} (c : GCh R b a p x) (ne : x ≠ b) (t : R x y) (least : ∀ z, R x z → y ≤ z) : GCh R b a (p ++ [y]) y
theorem GCh.ch {R : Nat → Nat → Prop} {b a : Nat} {p : List Nat} {x : Nat} (h : GCh R b a p x) : Ch R a p x := by
  induction h with
  | one => exact .one
  | snoc _ _ t _ ih => exact ih.snoc t
def lastD (p : List Nat) : Nat := p.getLastD 0
theorem lastD_snoc (p : List Nat) (y : Nat) : lastD (p ++ [y]) = y := by
  unfold lastD
  rw [List.getLastD_eq_getLast?, List.getLast?_append]
  rfl
theorem Ch.last {R : Nat → Nat → Prop} {a : Nat} {p : List Nat} {x : Nat} (h : Ch R a p x) : lastD p = x ∧ p ≠ [] := by
  cases h with
  | one => exact ⟨rfl, by simp⟩
  | snoc c t => exact ⟨lastD_snoc _ _, by simp⟩
/-- a chain's part and what follows it -/
theorem Ch.split {R : Nat → Nat → Prop} {a : Nat} {p : List Nat} {e : Nat} (h : Ch R a p e) : ∀ (g : List Nat) (z : Nat) (r : List Nat), p = g ++ z :: r → g ≠ [] → R (lastD g) z := by
  induction h with
  | one =>
    intro g z r e ne
    cases g with
    | nil => exact absurd rfl ne
    | cons x g =>
      have := congrArg List.length e
      simp at this
  | @snoc p x y c t ih =>
    intro g z r e ne
    rcases List.eq_nil_or_concat r with rfl | ⟨r', w, rfl⟩
    · have e' : p ++ [y] = g ++ [z] := e
      obtain ⟨e1, e2⟩ := List.append_inj' e' rfl
      subst e1
      cases e2
      rw [c.last.1]
      exact t
    · rw [List.concat_eq_append] at e
      have e' : p ++ [y] = (g ++ z :: r') ++ [w] := by rw [e]; simp
      obtain ⟨e1, _⟩ := List.append_inj' e' rfl
      exact ih g z r' e1 ne
theorem Ch.head {R : Nat → Nat → Prop} {a : Nat} {p : List Nat} {x : Nat} (h : Ch R a p x) : ∃ r, p = a :: r := by
  induction h with
  | one => exact ⟨[], rfl⟩
  | @snoc p x y c t ih =>
    obtain ⟨r, rfl⟩ := ih
    exact ⟨r ++ [y], rfl⟩
/-- the greedy chain is a prefix of each, or less -/
theorem greedy_less {R : Nat → Nat → Prop} {a b : Nat} {g : List Nat} {x : Nat} (h : GCh R b a g x) {p : List Nat} (c : Ch R a p b) :
    (∃ r, p = g ++ r) ∨ (∃ q y r1 z r2, g = q ++ y :: r1 ∧ p = q ++ z :: r2 ∧ y < z) := by
  induction h with
  | one =>
    obtain ⟨r, rfl⟩ := c.head
    exact .inl ⟨r, rfl⟩
  | @snoc g x y k ne t least ih =>
    rcases ih with ⟨r, e⟩ | ⟨q, u, r1, z, r2, e1, e2, lt⟩
    · cases r with
      | nil =>
        rw [List.append_nil] at e
        subst e
        exact absurd (k.ch.last.1.symm.trans c.last.1) ne
      | cons z r =>
        have t' := c.split g z r e k.ch.last.2
        rw [k.ch.last.1] at t'
        have le := least z t'
        by_cases q : y = z
        · subst q
          exact .inl ⟨r, by rw [e]; simp⟩
        · exact .inr ⟨g, y, [], z, r, rfl, e, by omega⟩
    · exact .inr ⟨q, u, r1 ++ [y], z, r2, by rw [e1]; simp, e2, lt⟩
theorem Tt.lt (G : Good n ws rs) (F : IsDist n rs f) {b x y : Nat} (h : Tt rs f b x y) : f y b < f x b ∧ x < n ∧ y < n := by
  obtain ⟨l, a, e⟩ := h
  have L := a.lt G
  exact ⟨by omega, L.1, L.2.1⟩
theorem greedy_least (G : Good n ws rs) (F : IsDist n rs f) {a b : Nat} (hb : b < n) {g : List Nat} (h : GCh (Tt rs f b) b a g b) {p : List Nat} (c : Ch (Tt rs f b) a p b) : p = g ∨ lx g p = true := by
  rcases greedy_less h c with ⟨r, e⟩ | ⟨q, y, r1, z, r2, e1, e2, lt⟩
  · cases r with
    | nil => rw [List.append_nil] at e; exact .inl e
    | cons z r =>
      have t := c.split g z r e h.ch.last.2
      rw [h.ch.last.1] at t
      have := t.lt G F
      have := F.zero b hb
      omega
  · rw [e1, e2]
    exact .inr (lx_less q r1 r2 lt)
theorem Ch.down (G : Good n ws rs) (F : IsDist n rs f) {a b : Nat} (ha : a < n) {p : List Nat} {x : Nat} (c : Ch (Tt rs f b) a p x) : (∀ v ∈ p, v < n ∧ f x b ≤ f v b) ∧ p.Nodup ∧ x < n := by
  induction c with
  | one => exact ⟨fun v h => by rw [List.mem_singleton.mp h]; exact ⟨ha, Nat.le_refl _⟩, by simp, ha⟩
  | @snoc p x y c t ih =>
    obtain ⟨h1, h2, h3⟩ := ih
    have L := t.lt G F
    refine ⟨fun v h => ?_, ?_, L.2.2⟩
    · rcases List.mem_append.mp h with h | h
      · have := h1 v h; exact ⟨this.1, by omega⟩
      · rw [List.mem_singleton.mp h]; exact ⟨L.2.2, Nat.le_refl _⟩
    · refine nodup_append' h2 (by simp) fun v h m => ?_
      rw [List.mem_singleton.mp m] at h
      have := (h1 y h).2
      omega
theorem Ch.len (G : Good n ws rs) (F : IsDist n rs f) {a b : Nat} (ha : a < n) {p : List Nat} {x : Nat} (c : Ch (Tt rs f b) a p x) : p.length ≤ n :=
  nodup_len n p (c.down G F ha).2.1 fun v h => ((c.down G F ha).1 v h).1
/-! ### the law's search -/
abbrev Way := List Nat × Nat
def fits (g : Tab) (a b : Nat) (w : Way) (s : Nat × Nat) : Bool := decide (w.2 + s.2 + g s.1 b = g a b)
def ext1 (rs : List Road) (g : Tab) (a b : Nat) (w : Way) : List Way := ((lsteps rs (lastD w.1)).filter (fits g a b w)).map (fun s => (w.1 ++ [s.1], w.2 + s.2))
def ext (rs : List Road) (g : Tab) (a b : Nat) (W : List Way) : List Way := W.flatMap (ext1 rs g a b)
def due1 (g : Tab) (a b : Nat) (d : Option (List Nat)) (w : Way) : Option (List Nat) :=
  if lastD w.1 = b ∧ w.2 = g a b then (match d with
    | none => some w.1
    | some q => if lx w.1 q = true then some w.1 else some q) else d
def Wt (rs : List Road) (g : Tab) (a b : Nat) : Nat → List Way
  | 0 => [([a], 0)]
  | t + 1 => ext rs g a b (Wt rs g a b t)
def due (rs : List Road) (g : Tab) (a b : Nat) : Nat → Option (List Nat)
  | 0 => none
  | t + 1 => (Wt rs g a b t).foldl (due1 g a b) (due rs g a b t)
variable {g : Tab} {a b : Nat}
theorem Wt_sound (G : Good n ws rs) (F : IsDist n rs f) (hg : ∀ i j, i < n → j < n → g i j = f i j) (ha : a < n) (hb : b < n) : ∀ t w, w ∈ Wt rs g a b t → ∃ x, Ch (Tt rs f b) a w.1 x ∧ w.1.length = t + 1 ∧ w.2 + f x b = f a b
  | 0, w, h => by
    rw [show w = ([a], 0) from List.mem_singleton.mp h]
    exact ⟨a, .one, rfl, by simp only; omega⟩
  | t + 1, w, h => by
    have h' : w ∈ (Wt rs g a b t).flatMap (ext1 rs g a b) := h
    rw [List.mem_flatMap] at h'
    obtain ⟨v, hv, h'⟩ := h'
    obtain ⟨x, c, len, e⟩ := Wt_sound G F hg ha hb t v hv
    unfold ext1 at h'
    rw [List.mem_map] at h'
    obtain ⟨s, hs, rfl⟩ := h'
    rw [List.mem_filter, mem_lsteps, c.last.1] at hs
    have L := hs.1.lt G
    have q := of_decide_eq_true hs.2
    rw [hg _ _ L.2.1 hb, hg _ _ ha hb] at q
    refine ⟨s.1, c.snoc ⟨s.2, hs.1, by omega⟩, by simp [len], by simp only; omega⟩
theorem Wt_complete (G : Good n ws rs) (F : IsDist n rs f) (hg : ∀ i j, i < n → j < n → g i j = f i j) (ha : a < n) (hb : b < n) {p : List Nat} {x : Nat} (c : Ch (Tt rs f b) a p x) :
    ∃ t k, p.length = t + 1 ∧ (p, k) ∈ Wt rs g a b t ∧ k + f x b = f a b := by
  induction c with
  | one => exact ⟨0, 0, rfl, List.mem_singleton.mpr rfl, by omega⟩
  | @snoc p x y c tt ih =>
    obtain ⟨t, k, len, m, e⟩ := ih
    obtain ⟨l, ad, q⟩ := tt
    have L := ad.lt G
    refine ⟨t + 1, k + l, by simp [len], ?_, by omega⟩
    show _ ∈ (Wt rs g a b t).flatMap (ext1 rs g a b)
    refine List.mem_flatMap.mpr ⟨_, m, ?_⟩
    unfold ext1
    refine List.mem_map.mpr ⟨(y, l), List.mem_filter.mpr ⟨?_, ?_⟩, rfl⟩
    · rw [mem_lsteps, c.last.1]; exact ad
    · refine decide_eq_true ?_
      show k + l + g y b = g a b
      rw [hg _ _ L.2.1 hb, hg _ _ ha hb]
      omega
theorem ext1_len (G : Good n ws rs) (w : Way) : (ext1 rs g a b w).length ≤ 8 := by
  unfold ext1
  rw [List.length_map]
  exact Nat.le_trans (List.length_filter_le _ _) (lsteps_len G _)
theorem flat_len (G : Good n ws rs) : ∀ W : List Way, (W.flatMap (ext1 rs g a b)).length ≤ 8 * W.length
  | [] => Nat.le_refl _
  | w :: W => by
    rw [List.flatMap_cons, List.length_append, List.length_cons]
    have h1 := ext1_len (g := g) (a := a) (b := b) G w
    have h2 := flat_len G W
    omega
theorem Wt_len (G : Good n ws rs) : ∀ t, (Wt rs g a b t).length ≤ 8 ^ t
  | 0 => Nat.le_refl _
  | t + 1 => by
    have h1 := flat_len (g := g) (a := a) (b := b) G (Wt rs g a b t)
    have h2 := Wt_len G t
    rw [Nat.pow_succ]
    show ((Wt rs g a b t).flatMap (ext1 rs g a b)).length ≤ _
    omega
/-- what holds of the least so far -/
structure Du (rs : List Road) (f : Tab) (a b : Nat) (seen : List (List Nat)) (d : Option (List Nat)) : Prop where
  ok : ∀ q, d = some q → Ch (Tt rs f b) a q b
  low : ∀ p ∈ seen, Ch (Tt rs f b) a p b → ∃ q, d = some q ∧ lx p q = false
theorem due_one {seen : List (List Nat)} {d : Option (List Nat)} {w : Way} (D : Du rs f a b seen d) (hw : lastD w.1 = b ∧ w.2 = g a b ↔ Ch (Tt rs f b) a w.1 b) : Du rs f a b (seen ++ [w.1]) (due1 g a b d w) := by
  unfold due1
  by_cases h : lastD w.1 = b ∧ w.2 = g a b
  · rw [if_pos h]
    have c := hw.mp h
    cases d with
    | none =>
      refine ⟨(fun q e => by cases e; exact c), fun p m cp => ?_⟩
      rcases List.mem_append.mp m with m | m
      · obtain ⟨q, e, _⟩ := D.low p m cp; cases e
      · rw [List.mem_singleton.mp m]; exact ⟨_, rfl, lx_irrefl _⟩
    | some q =>
      simp only
      by_cases l : lx w.1 q = true
      · rw [if_pos l]
        refine ⟨(fun q e => by cases e; exact c), fun p m cp => ?_⟩
        rcases List.mem_append.mp m with m | m
        · obtain ⟨q', e, n1⟩ := D.low p m cp
          cases e
          refine ⟨_, rfl, ?_⟩
          cases z : lx p w.1 with
          | false => rfl
          | true => rw [lx_trans z l] at n1; cases n1
        · rw [List.mem_singleton.mp m]; exact ⟨_, rfl, lx_irrefl _⟩
      · rw [if_neg l]
        refine ⟨D.ok, fun p m cp => ?_⟩
        rcases List.mem_append.mp m with m | m
        · exact D.low p m cp
        · rw [List.mem_singleton.mp m]; exact ⟨_, rfl, by simpa using l⟩
  · rw [if_neg h]
    refine ⟨D.ok, fun p m cp => ?_⟩
    rcases List.mem_append.mp m with m | m
    · exact D.low p m cp
    · rw [List.mem_singleton.mp m] at cp; exact absurd (hw.mpr cp) h
theorem due_ok (G : Good n ws rs) (F : IsDist n rs f) (hg : ∀ i j, i < n → j < n → g i j = f i j) (ha : a < n) (hb : b < n) : ∀ t, ∃ seen, Du rs f a b seen (due rs g a b t) ∧ ∀ u, u < t → ∀ w ∈ Wt rs g a b u, w.1 ∈ seen
  | 0 => ⟨[], ⟨(fun q e => by cases e), (fun p m => by cases m)⟩, fun u h => absurd h (Nat.not_lt_zero _)⟩
  | t + 1 => by
    obtain ⟨seen, D, hs⟩ := due_ok G F hg ha hb t
    have key := foldl_invP (P := fun (d : List Way) (q : Option (List Nat)) => Du rs f a b (seen ++ d.map (·.1)) q) (due1 g a b) (Wt rs g a b t) [] (due rs g a b t)
      (by simpa using D)
      (fun d w q hw ih => by
        have e : seen ++ (d ++ [w]).map (·.1) = (seen ++ d.map (·.1)) ++ [w.1] := by simp
        rw [e]
        refine due_one ih ?_
        obtain ⟨x, c, len, k⟩ := Wt_sound G F hg ha hb t w hw
        constructor
        · rintro ⟨h1, _⟩
          rw [c.last.1] at h1
          subst h1
          exact c
        · intro c'
          refine ⟨c'.last.1, ?_⟩
          have e := c.last.1.symm.trans c'.last.1
          subst e
          rw [hg _ _ ha hb]
          have := F.zero x hb
          omega)
    rw [List.nil_append] at key
    refine ⟨_, key, fun u hu w hw => ?_⟩
    by_cases e : u = t
    · subst e; exact List.mem_append_right _ (List.mem_map.mpr ⟨w, hw, rfl⟩)
    · exact List.mem_append_left _ (hs u (by omega) w hw)
/-- THE LAW'S WAY: the greedy one -/
theorem due_eq (G : Good n ws rs) (F : IsDist n rs f) (hg : ∀ i j, i < n → j < n → g i j = f i j) (ha : a < n) (hb : b < n) {p : List Nat} (h : GCh (Tt rs f b) b a p b) : due rs g a b n = some p := by
  obtain ⟨seen, D, hs⟩ := due_ok G F hg ha hb n
  obtain ⟨t, k, len, m, _⟩ := Wt_complete G F hg ha hb h.ch
  have L := h.ch.len G F ha
  obtain ⟨q, e, l⟩ := D.low p (hs t (by omega) _ m) h.ch
  rcases greedy_least G F hb h (D.ok q e) with e' | e'
  · rw [e, e']
  · rw [e'] at l; cases l
end
end Nh
namespace Nh
open PySem PySem.Spec PyProof.Rows L2
/-! ### the text -/
def topS (i : Nat) : Stmt := PySem.Challenge.pw_nearhouses_k00_whole_distances.main.body.getD i (.Pass ⟨0, 0, 0, 0⟩)
abbrev sIsIn : Stmt := topS 5
abbrev sIsRoad : Stmt := topS 11
abbrev sIsW : Stmt := topS 12
abbrev sNeedW : Stmt := topS 13
abbrev sNeedP : Stmt := topS 14
abbrev sParts : Stmt := topS 15
abbrev sTable : Stmt := topS 16
abbrev sDist : Stmt := topS 17
abbrev sSteps : Stmt := topS 18
abbrev sWayIn : Stmt := topS 19
abbrev sWay : Stmt := topS 20
abbrev sTaken : Stmt := topS 22
abbrev sPick : Stmt := topS 23
abbrev sOrder : Stmt := topS 24
abbrev sWeb : Stmt := topS 25
abbrev sRows : Stmt := topS 26
abbrev sAlike : Stmt := topS 27
abbrev sLSteps : Stmt := topS 28
abbrev sLaw : Stmt := topS 29
/-- the built-in names that the text never stores -/
structure Free (mg : Str → Option Value) : Prop where
  isinstance : mg "isinstance" = none
  int : mg "int" = none
  bool : mg "bool" = none
  tuple : mg "tuple" = none
  list : mg "list" = none
  str : mg "str" = none
  len : mg "len" = none
  sum : mg "sum" = none
  enumerate : mg "enumerate" = none
  range : mg "range" = none
  sorted : mg "sorted" = none
  min : mg "min" = none
/-! ### heaps -/
theorem same_upd {H0 H : Hp} {p : Addr} {o : HO} (S : Same H0 H) (h : H0 p = none) : Same H0 (upd H p o) := fun b x e => by
  rw [upd_ne (ne_of_none e h)]
  exact S b x e
theorem same_new {H0 H : Hp} {p : Addr} {o : HO} (S : Same H0 H) (h : H p = none) : Same H0 (upd H p o) := same_upd S (S.free h)
theorem sq_t {K : PySem.W.Frag} {H0 H : Hp} {a : Addr} {xs : List V} (S : Same H0 H) (h : H0 a = some (.tup xs)) : SqT K H a xs := .of (S _ _ h)
theorem sq_l {K : PySem.W.Frag} {H : Hp} {a : Addr} {xs : List V} (h : H a = some (.lst xs)) : SqL K H a xs := .of h
abbrev iv (k : Nat) : V := .int (k : Int)
theorem iv_inj {a b : Nat} (h : iv a = iv b) : a = b := by
  have := V.int.inj h
  omega
theorem line_big {n : Nat} (h : n ≤ 1000) : n ≤ sizeLine := Nat.le_of_lt (small1000 h)
/-! ### data that is compared -/
theorem canLay_ints : ∀ ns : List Int, PyData.canLayAll0 (ns.map PyData.int) = true
  | [] => by simp [PyData.canLayAll0]
  | n :: ns => by simp [PyData.canLayAll0, PyData.canLay0, canLay_ints ns]
theorem depth_ints : ∀ ns : List Int, PyData.depthAll (ns.map PyData.int) = 0
  | [] => by simp [PyData.depthAll]
  | n :: ns => by simp [PyData.depthAll, PyData.depth, depth_ints ns]
theorem shaped_ints (ns : List Int) : SeqAt.shaped (.list (ns.map PyData.int)) = true := by
  simp [SeqAt.shaped, PyData.canLay0, PyData.depth, canLay_ints, depth_ints]
theorem dp_ints {K : PySem.W.Frag} {H : Hp} : ∀ ns : List Int, DpAll K H (ns.map V.int) (ns.map PyData.int)
  | [] => .nil
  | n :: ns => .cons (.int n) (dp_ints ns)
theorem eqv_nil (ns : List Int) : PyData.eqv (.list (ns.map PyData.int)) (.list []) = decide (ns = []) := by
  cases ns <;> simp [PyData.eqv, PyData.eqvAll]
theorem shaped_nil : SeqAt.shaped (.list []) = true := by simp [SeqAt.shaped, PyData.canLay0, PyData.canLayAll0, PyData.depth, PyData.depthAll]
section
variable {P : Program} {w : World} {K : PySem.W.Frag} {mg : Str → Option Value} {base : Heap}
/-! ### is_in, is_road, need_point -/
theorem scIsIn : FnScope ["value", "least", "most"] ["value", "least", "most"] (defScope sIsIn) := ⟨rfl, rfl, rfl, by decide +kernel, rfl, by decide +kernel, by decide +kernel⟩
def spIsIn : Sp := fun vs H Q _ => ∃ v lo hi : Int, vs = [.int v, .int lo, .int hi] ∧ Q (.bl (decide (lo ≤ v ∧ v ≤ hi))) H
theorem bt_int : bootBuiltins "int" = some (.type "int") := by decide +kernel
theorem bt_bool : bootBuiltins "bool" = some (.type "bool") := by decide +kernel
theorem bt_tuple : bootBuiltins "tuple" = some (.type "tuple") := by decide +kernel
theorem bt_list : bootBuiltins "list" = some (.type "list") := by decide +kernel
theorem bt_str : bootBuiltins "str" = some (.type "str") := by decide +kernel
theorem bt_sum : bootBuiltins "sum" = some (.builtin "sum") := by decide +kernel
theorem bt_sorted : bootBuiltins "sorted" = some (.builtin "sorted") := by decide +kernel
theorem bt_min : bootBuiltins "min" = some (.builtin "min") := by decide +kernel
theorem ok_isin {f : Addr} {fd : FuncData} {k : Nat} (F : Fun K "is_in" "is_in" sIsIn f fd) (B : Free mg) : FnOk P w K mg base CX0 (k + 1) f fd ["value", "least", "most"] spIsIn := by
  refine F.ok scIsIn (fun vs H Q E h => ?_) (fun cdv A outer s H vs Q E hr h => ?_)
  · obtain ⟨v, lo, hi, rfl, _⟩ := h
    rfl
  · obtain ⟨v, lo, hi, rfl, q⟩ := h
    refine ⟨_, pss_one (ps_ret (pe_and (pe_callB call_isi (by rfl) B.isinstance boot_isinstance (pa_cons (pv 0) (pa_cons (pe_bltn (v := .ty "int") (by rfl) B.int bt_int rfl) pa_nil)))
      (pe_and (pe_not (pe_callB call_isi (by rfl) B.isinstance boot_isinstance (pa_cons (pv 0) (pa_cons (pe_bltn (v := .ty "bool") (by rfl) B.bool bt_bool rfl) pa_nil))))
        (pe_one (pe_chain op_le op_le (pv 1) (pv 0) (pv 2)))))), ?_⟩
    refine ⟨_, rfl, _, _, _, _, true, rfl, .ty _, .base (.int _), kit_ty (by decide +kernel), true, rfl, iteT ?_⟩
    refine ⟨_, rfl, _, _, _, _, false, rfl, .ty _, .base (.int _), kit_ty (by decide +kernel), false, rfl, true, rfl, iteT ?_⟩
    refine ⟨_, rfl, _, rfl, lo, v, rfl, rfl, _, rfl, ite2 (fun e => ?_) (fun e => ?_)⟩
    · refine ⟨_, rfl, v, hi, rfl, rfl, ?_⟩
      have e' : lo ≤ v := of_decide_eq_true e
      have : decide (v ≤ hi) = decide (lo ≤ v ∧ v ≤ hi) := by simp [e']
      show Q (.bl (decide (v ≤ hi))) H
      rw [this]
      exact q
    · have e' : ¬ lo ≤ v := fun z => e (decide_eq_true z)
      have : false = decide (lo ≤ v ∧ v ≤ hi) := by simp [e']
      show Q (.bl false) H
      rw [this]
      exact q
theorem scIsRoad : FnScope ["value", "count"] ["value", "count"] (defScope sIsRoad) := ⟨rfl, rfl, rfl, by decide +kernel, rfl, by decide +kernel, by decide +kernel⟩
def spIsRoad : Sp := fun vs H Q _ => ∃ (t : Addr) (a b l n : Int), vs = [.ref t, .int n] ∧ H t = some (.tup [.int a, .int b, .int l]) ∧ 0 ≤ a ∧ a < b ∧ b ≤ n - 1 ∧ 1 ≤ l ∧ l ≤ 100 ∧ Q (.bl true) H
theorem ok_isroad {f fI : Addr} {fd fdI : FuncData} {t1 : Tok} (F : Fun K "is_road" "is_road" sIsRoad f fd) (FI : Fun K "is_in" "is_in" sIsIn fI fdI) (bI : Binds K fdI ["value", "least", "most"] []) (gI : mg "is_in" = some (.ref fI)) (gM : mg "MOST_LENGTH" = some (.int 100 t1)) (B : Free mg) :
    FnOk P w K mg base CX0 2 f fd ["value", "count"] spIsRoad := by
  have GI : FnOk P w K mg base CX0 1 fI fdI ["value", "least", "most"] spIsIn := ok_isin FI B
  refine F.ok scIsRoad (fun vs H Q E h => ?_) (fun cdv A outer s H vs Q E hr h => ?_)
  · obtain ⟨t, a, b, l, n, rfl, _⟩ := h
    rfl
  · obtain ⟨t, a, b, l, n, rfl, ht, h0, hab, hb, hl, hl', q⟩ := h
    refine ⟨_, pss_cons (ps_if (PW.pt (pw_or (pt_not (pt_val (pe_callB call_isi (by rfl) B.isinstance boot_isinstance (pa_cons (pv 0) (pa_cons (pe_bltn (v := .ty "tuple") (by rfl) B.tuple bt_tuple rfl) pa_nil)))))
        (pw_or1 (pt_cmpR op_ne (pe_callB call_len (by rfl) B.len PySem.boot_len (pa_cons (pv 0) pa_nil)) pe_int (nomark _))))) (pss_one ps_never) pss_nil)
      (pss_cons (ps_if (PW.pt (pw_or (pt_not (pt_val (pe_call GI hr (by rfl) gI FI.kp bI .nil pass0 (pa_cons (pe_ix ix_tup (pv 0) pe_int (fun _ _ => rfl)) (pa_cons pe_int (pa_cons (pe_op op_sub (pv 1) pe_int) pa_nil))))))
        (pw_or1 (pt_not (pt_val (pe_call GI hr (by rfl) gI FI.kp bI .nil pass0 (pa_cons (pe_ix ix_tup (pv 0) pe_int (fun _ _ => rfl)) (pa_cons (pe_op op_add (pe_ix ix_tup (pv 0) pe_int (fun _ _ => rfl)) pe_int) (pa_cons (pe_op op_sub (pv 1) pe_int) pa_nil)))))))))
        (pss_one ps_never) pss_nil)
      (pss_one (ps_ret (pe_call GI hr (by rfl) gI FI.kp bI .nil pass0 (pa_cons (pe_ix ix_tup (pv 0) pe_int (fun _ _ => rfl)) (pa_cons pe_int (pa_cons (pe_glob (v := .int 100) (by rfl) gM ⟨_, rfl⟩) pa_nil))))))), ?_⟩
    refine ⟨_, rfl, _, _, _, _, true, rfl, .ty _, .base (.tup ht), kit_ty (by decide +kernel), true, rfl, ?_⟩
    refine iteF ⟨_, rfl, _, 3, rfl, .inr ⟨_, .of ht, rfl⟩, rfl, false, rfl, iteF ?_⟩
    refine ⟨_, rfl, t, _, 0, _, rfl, rfl, .of ht, atI_nat (j := 0) rfl, _, rfl, n, 1, rfl, rfl, a, 0, n - 1, rfl, true, congrArg V.bl (decide_eq_true ⟨h0, by omega⟩), ?_⟩
    refine iteF ⟨_, rfl, t, _, 1, _, rfl, rfl, .of ht, atI_nat (j := 1) rfl, _, rfl, t, _, 0, _, rfl, rfl, .of ht, atI_nat (j := 0) rfl, a, 1, rfl, rfl, _, rfl, n, 1, rfl, rfl, b, a + 1, n - 1, rfl, true, congrArg V.bl (decide_eq_true ⟨by omega, hb⟩), iteF ?_⟩
    refine ⟨_, rfl, t, _, 2, _, rfl, rfl, .of ht, atI_nat (j := 2) rfl, l, 1, 100, rfl, ?_⟩
    rw [decide_eq_true (show (1 : Int) ≤ l ∧ l ≤ 100 from ⟨hl, hl'⟩)]
    exact q
end
end Nh
namespace Nh
open PySem PySem.Spec PyProof.Rows L2
/-! ### the law's draws -/
/-- all but the object at q is as it was -/
def SameX (q : Addr) (H H' : Hp) : Prop := ∀ b o, b ≠ q → H b = some o → H' b = some o
theorem SameX.refl (q : Addr) (H : Hp) : SameX q H H := fun _ _ _ h => h
theorem SameX.trans {q : Addr} {H H1 H2 : Hp} (a : SameX q H H1) (b : SameX q H1 H2) : SameX q H H2 := fun c o n h => b c o n (a c o n h)
theorem SameX.new {q p : Addr} {H0 H : Hp} {o : HO} (s : SameX q H0 H) (hp : H p = none) : SameX q H0 (upd H p o) := fun b x n e => by
  have h := s b x n e
  rw [upd_ne (ne_of_none h hp)]
  exact h
theorem sameX_of {q : Addr} {H H' : Hp} (a : Same H H') : SameX q H H' := fun c o _ h => a c o h
/-- what is frozen stays -/
def Frz (H H' : Hp) : Prop := ∀ b o u, H b = some (.frz o u) → H' b = some (.frz o u)
/-- the script, whatever is stored beside it -/
def Scr (K : PySem.W.Frag) (H : Hp) (sc : Addr) (ns : List Int) : Prop := ∀ H', Frz H H' → SqL K H' sc (ns.map V.int)
theorem Scr.seq {K : PySem.W.Frag} {H : Hp} {sc : Addr} {ns : List Int} (h : Scr K H sc ns) : SqL K H sc (ns.map V.int) := h H fun _ _ _ e => e
theorem Scr.go {K : PySem.W.Frag} {H H' : Hp} {sc : Addr} {ns : List Int} (h : Scr K H sc ns) (f : Frz H H') : Scr K H' sc ns := fun H2 f2 => h H2 fun b o u e => f2 b o u (f b o u e)
def Soft (H : Hp) (p : Addr) : Prop := H p = none ∨ ∃ xs, H p = some (.lst xs)
theorem Soft.upd {H : Hp} {p : Addr} {o : HO} (h : Soft H p) : Frz H (upd H p o) := fun b ob u e => by
  rw [upd_ne]
  · exact e
  · intro z
    subst z
    rcases h with h | ⟨xs, h⟩ <;> (rw [h] at e; cases e)
theorem SameX.frz {q : Addr} {H H' : Hp} {xs : List V} (h : H q = some (.lst xs)) (s : SameX q H H') : Frz H H' := fun b o u e => s b _ (fun z => by
  subst z
  rw [h] at e
  cases e) e
/-- the row of draws stands at q -/
def RowAt (K : PySem.W.Frag) (H : Hp) (q : Addr) : Prop := ∃ (sc : Addr) (ns : List Int) (i s c : Int), Scr K H sc ns ∧ ns.length ≤ 63 ∧ H q = some (.lst [.ref sc, .int i, .int s, .int c]) ∧ 0 ≤ i
theorem SameX.free {q p : Addr} {H H' : Hp} {o : HO} (e : SameX q H H') (hq : H' q = some o) (h : H' p = none) : H p = none := by
  have ne : p ≠ q := fun z => by
    subst z
    rw [hq] at h
    cases h
  cases z : H p with
  | none => rfl
  | some o =>
    rw [e p o ne z] at h
    cases h
theorem RowAt.get {K : PySem.W.Frag} {H : Hp} {q : Addr} (h : RowAt K H q) : ∃ xs, H q = some (.lst xs) := by
  obtain ⟨_, _, _, _, _, _, _, h, _⟩ := h
  exact ⟨_, h⟩
/-- a store beside the row -/
theorem RowAt.put {K : PySem.W.Frag} {H : Hp} {q p : Addr} {o : HO} (h : RowAt K H q) (n : p ≠ q) (hp : Soft H p) : RowAt K (upd H p o) q := by
  obtain ⟨sc, ns, i, s, c, h1, h2, h3, h4⟩ := h
  exact ⟨sc, ns, i, s, c, h1.go hp.upd, h2, by rw [upd_ne n.symm]; exact h3, h4⟩
theorem RowAt.ne {K : PySem.W.Frag} {H : Hp} {q p : Addr} (h : RowAt K H q) (hp : H p = none) : p ≠ q := fun e => by
  obtain ⟨xs, h⟩ := h.get
  rw [← e, hp] at h
  cases h
theorem RowAt.new {K : PySem.W.Frag} {H : Hp} {q p : Addr} {o : HO} (h : RowAt K H q) (hp : H p = none) : RowAt K (upd H p o) q := h.put (h.ne hp) (.inl hp)
section
variable {P : Program} {w : World} {K : PySem.W.Frag} {mg : Str → Option Value} {base : Heap}
theorem scTaken : FnScope ["_law_row", "_law_many", "_law_found", "_law_cell"] ["_law_row", "_law_many"] (defScope sTaken) := ⟨rfl, rfl, rfl, by decide +kernel, rfl, by decide +kernel, by decide +kernel⟩
def spTaken (K : PySem.W.Frag) : Sp := fun vs H Q _ => ∃ (q : Addr) (m : Nat), vs = [.ref q, iv m] ∧ RowAt K H q ∧ 1 ≤ m ∧ m ≤ 1000000 ∧ ∀ (H' : Hp) (r : Nat), r < m → SameX q H H' → RowAt K H' q → Q (iv r) H'
theorem fmod_nat {i : Int} {m : Nat} (h : 1 ≤ m) : ∃ r : Nat, r < m ∧ i.fmod (m : Int) = (r : Int) := by
  have e : i.fmod (m : Int) = i % (m : Int) := Int.fmod_eq_emod_of_nonneg i (by omega)
  have h1 := Int.emod_nonneg i (show (m : Int) ≠ 0 by omega)
  have h2 := Int.emod_lt_of_pos i (show (0 : Int) < (m : Int) by omega)
  exact ⟨(i % (m : Int)).toNat, by omega, by rw [e]; omega⟩
theorem ok_taken {f : Addr} {fd : FuncData} {k : Nat} (F : Fun K "_law_taken" "_law_taken" sTaken f fd) (B : Free mg) : FnOk P w K mg base CX0 (k + 1) f fd ["_law_row", "_law_many"] (spTaken K) := by
  refine F.ok scTaken (fun vs H Q E h => ?_) (fun cdv A outer s H vs Q E hr h => ?_)
  · obtain ⟨q, m, rfl, _⟩ := h
    rfl
  · obtain ⟨q, m, rfl, ⟨sc, ns, i, st, c, hS, hlen, hq, hi⟩, hm, hm2, Qk⟩ := h
    refine ⟨_, pss_cons (ps_if (pt_cmpR op_gt (pe_ix ix_list (pv 0) pe_int (fun _ _ => rfl)) pe_int (nomark _))
        (pss_cons (ps_set (i := 2) scTaken.nd rfl (.inl rfl) (pe_op op_modN (pe_callTy call_int1 (by rfl) B.int bt_int (pa_cons (pe_ix ix_list (pv 0) pe_int (fun _ _ => rfl)) pa_nil)) (pv 1)))
        (pss_cons (ps_asg (pe_op op_fdiv (pe_ix ix_list (pv 0) pe_int (fun _ _ => rfl)) (pv 1)) (pg_sub (pv 0) pe_int set_list))
        (pss_one (ps_ret (pv 2))))) pss_nil)
      (pss_cons (ps_asg (pe_op op_add (pe_ix ix_list (pv 0) pe_int (fun _ _ => rfl)) pe_int) (pg_sub (pv 0) pe_int set_list))
      (pss_cons (ps_if (pt_cmpR op_gt (pe_ix ix_list (pv 0) pe_int (fun _ _ => rfl)) (pe_callB call_len_seq (by rfl) B.len PySem.boot_len (pa_cons (pe_ix ix_list (pv 0) pe_int (fun _ _ => rfl)) pa_nil)) (nomark _))
        (pss_cons (ps_asg (pe_op op_modN (pe_callTy call_int1 (by rfl) B.int bt_int (pa_cons (pe_op op_add (pe_op op_mul (pe_ix ix_list (pv 0) pe_int (fun _ _ => rfl)) pe_int) pe_int) pa_nil)) pe_int) (pg_sub (pv 0) pe_int set_list))
        (pss_one (ps_ret (pe_op op_modN (pe_callTy call_int1 (by rfl) B.int bt_int (pa_cons (pe_op op_fdiv (pe_ix ix_list (pv 0) pe_int (fun _ _ => rfl)) pe_int) pa_nil)) (pv 1))))) pss_nil)
      (pss_cons (ps_set (i := 3) scTaken.nd rfl (.inl rfl) (pe_ix ix_list (pe_ix ix_list (pv 0) pe_int (fun _ _ => rfl)) (pe_op op_sub (pe_ix ix_list (pv 0) pe_int (fun _ _ => rfl)) pe_int) (fun _ _ => rfl)))
      (pss_cons (ps_asg (pe_op op_modN (pe_callTy call_int1 (by rfl) B.int bt_int (pa_cons (pe_op op_add (pe_op op_add (pe_op op_mul (pe_ix ix_list (pv 0) pe_int (fun _ _ => rfl)) pe_int) (pv 3)) pe_int) pa_nil)) pe_int) (pg_sub (pv 0) pe_int set_list))
      (pss_cons (ps_if (pt_cmpR op_ge (pv 3) (pe_op op_pow pe_int pe_int) (nomark _))
        (pss_one (ps_asg (pe_op op_fdiv (pv 3) (pv 1)) (pg_sub (pv 0) pe_int set_list))) pss_nil)
      (pss_one (ps_ret (pe_op op_modN (pe_callTy call_int1 (by rfl) B.int bt_int (pa_cons (pv 3) pa_nil)) (pv 1))))))))), ?_⟩
    have sx : ∀ {H1 : Hp} {o : HO}, SameX q H H1 → SameX q H (upd H1 q o) := fun e b x n h => by
      rw [upd_ne n]
      exact e b x n h
    have s0 := SameX.refl q H
    have m0 : (m : Int) ≠ 0 := by omega
    have hd : (0 : Int) < (m : Int) ∧ (m : Int) < 1073741824 := ⟨by omega, by omega⟩
    refine ⟨_, rfl, q, _, 3, _, rfl, rfl, .of hq, atI_nat (j := 3) rfl, c, 0, rfl, rfl, _, rfl, ite2 (fun e => ?_) (fun e => ?_)⟩
    · obtain ⟨r, hr1, hr2⟩ := fmod_nat (i := c) hm
      refine ⟨_, rfl, q, _, 3, _, rfl, rfl, .of hq, atI_nat (j := 3) rfl, .inl ⟨c, rfl, _, rfl, c, m, rfl, rfl, m0, ?_⟩⟩
      refine ⟨_, rfl, q, _, 3, _, rfl, rfl, .of hq, atI_nat (j := 3) rfl, _, rfl, c, m, rfl, rfl, hd, ?_⟩
      refine ⟨_, rfl, q, _, 3, 3, rfl, rfl, hq, rfl, _, rfl, ?_⟩
      show Q (.int (c.fmod (m : Int))) _
      rw [hr2]
      exact Qk _ r hr1 (sx s0) ⟨sc, ns, i, st, _, hS.go ((sx s0).frz hq), hlen, upd_same, hi⟩
    · refine ⟨_, rfl, q, _, 1, _, rfl, rfl, .of hq, atI_nat (j := 1) rfl, i, 1, rfl, rfl, _, rfl, q, _, 1, 1, rfl, rfl, hq, rfl, ?_⟩
      generalize hH1 : upd H q (HO.lst ([V.ref sc, V.int i, V.int st, V.int c].set 1 (V.int (i + 1)))) = H1
      have hq1 : H1 q = some (.lst [.ref sc, .int (i + 1), .int st, .int c]) := by rw [← hH1, upd_same]; rfl
      have s1 : SameX q H H1 := by rw [← hH1]; exact sx s0
      have hS1 := (hS.go (s1.frz hq)).seq
      refine ⟨_, rfl, q, _, 1, _, rfl, rfl, .of hq1, atI_nat (j := 1) rfl, _, rfl, q, _, 0, _, rfl, rfl, .of hq1, atI_nat (j := 0) rfl, sc, _, rfl, .inl hS1, i + 1, _, rfl, rfl, _, rfl, ite2 (fun e => ?_) (fun e => ?_)⟩
      · refine ⟨_, rfl, q, _, 2, _, rfl, rfl, .of hq1, atI_nat (j := 2) rfl, st, 48271, rfl, rfl, .inr ⟨by decide, by decide⟩, _, 11, rfl, rfl, .inl ⟨_, rfl, _, 2147483647, rfl, rfl, (show (2147483647 : Int) ≠ 0 by decide), ?_⟩⟩
        refine ⟨_, rfl, q, _, 2, 2, rfl, rfl, hq1, rfl, ?_⟩
        dsimp only
        generalize (st * 48271 + 11).fmod 2147483647 = st2
        generalize hH2 : upd H1 q (HO.lst ([V.ref sc, V.int (i + 1), V.int st, V.int c].set 2 (V.int st2))) = H2
        have hq2 : H2 q = some (.lst [.ref sc, .int (i + 1), .int st2, .int c]) := by rw [← hH2, upd_same]; rfl
        have s2 : SameX q H H2 := by rw [← hH2]; exact sx s1
        obtain ⟨r, hr1, hr2⟩ := fmod_nat (i := st2 / 7) hm
        refine ⟨_, rfl, q, _, 2, _, rfl, rfl, .of hq2, atI_nat (j := 2) rfl, st2, 7, rfl, rfl, ⟨by decide, by decide⟩, .inl ⟨_, rfl, _, rfl, _, m, rfl, rfl, m0, ?_⟩⟩
        show Q (.int ((st2 / 7).fmod (m : Int))) _
        rw [hr2]
        exact Qk _ r hr1 s2 ⟨sc, ns, i + 1, st2, c, hS.go (s2.frz hq), hlen, hq2, by omega⟩
      · have e' : ¬ (((ns.map V.int).length : Nat) : Int) < i + 1 := fun z => e (decide_eq_true z)
        rw [List.length_map] at e'
        obtain ⟨n, hn⟩ : ∃ n : Nat, i = (n : Int) := ⟨i.toNat, by omega⟩
        subst hn
        have hn : n < ns.length := by omega
        have gc : atI (ns.map V.int) ((n : Int) + 1 - 1) = some (.int ns[n]) := at_of (j := n) (by omega) (by
          rw [List.getElem?_map, List.getElem?_eq_getElem hn]
          rfl)
        refine ⟨_, rfl, q, _, 0, _, rfl, rfl, .of hq1, atI_nat (j := 0) rfl, _, rfl, q, _, 1, _, rfl, rfl, .of hq1, atI_nat (j := 1) rfl, (n : Int) + 1, 1, rfl, rfl, sc, _, (n : Int) + 1 - 1, _, rfl, rfl, hS1, gc, ?_⟩
        generalize ns[n] = cl
        refine ⟨_, rfl, q, _, 2, _, rfl, rfl, .of hq1, atI_nat (j := 2) rfl, st, 48271, rfl, rfl, .inr ⟨by decide, by decide⟩, _, rfl, _, cl, rfl, rfl, _, 11, rfl, rfl, .inl ⟨_, rfl, _, 2147483647, rfl, rfl, (show (2147483647 : Int) ≠ 0 by decide), ?_⟩⟩
        refine ⟨_, rfl, q, _, 2, 2, rfl, rfl, hq1, rfl, ?_⟩
        dsimp only
        generalize (st * 48271 + cl + 11).fmod 2147483647 = st2
        generalize hH2 : upd H1 q (HO.lst ([V.ref sc, V.int ((n : Int) + 1), V.int st, V.int c].set 2 (V.int st2))) = H2
        have hq2 : H2 q = some (.lst [.ref sc, .int ((n : Int) + 1), .int st2, .int c]) := by rw [← hH2, upd_same]; rfl
        have s2 : SameX q H H2 := by rw [← hH2]; exact sx s1
        obtain ⟨r, hr1, hr2⟩ := fmod_nat (i := cl) hm
        refine ⟨_, rfl, 10, 18, rfl, rfl, ⟨by decide, by decide, by decide⟩, cl, _, rfl, rfl, _, rfl, ite2 (fun e => ?_) (fun e => ?_)⟩
        · refine ⟨_, rfl, _, rfl, cl, m, rfl, rfl, hd, _, rfl, q, _, 3, 3, rfl, rfl, hq2, rfl, ?_⟩
          refine ⟨_, rfl, .inl ⟨_, rfl, _, rfl, cl, m, rfl, rfl, m0, ?_⟩⟩
          show Q (.int (cl.fmod (m : Int))) _
          rw [hr2]
          exact Qk _ r hr1 (sx s2) ⟨sc, ns, (n : Int) + 1, st2, _, hS.go ((sx s2).frz hq), hlen, upd_same, by omega⟩
        · refine ⟨_, rfl, .inl ⟨_, rfl, _, rfl, cl, m, rfl, rfl, m0, ?_⟩⟩
          show Q (.int (cl.fmod (m : Int))) _
          rw [hr2]
          exact Qk _ r hr1 s2 ⟨sc, ns, (n : Int) + 1, st2, c, hS.go (s2.frz hq), hlen, hq2, by omega⟩
end
end Nh
namespace Nh
open PySem PySem.Spec PyProof.Rows L2
theorem mget {α β : Type} {f : α → β} {l : List α} {i : Nat} {x : β} (h : (l.map f)[i]? = some x) : ∃ y, l[i]? = some y ∧ f y = x := by
  rw [List.getElem?_map] at h
  cases e : l[i]? with
  | none => rw [e] at h; cases h
  | some y => rw [e] at h; exact ⟨y, rfl, Option.some.inj h⟩
theorem gmap {α β : Type} {f : α → β} {l : List α} {i : Nat} {y : α} (h : l[i]? = some y) : (l.map f)[i]? = some (f y) := by
  rw [List.getElem?_map, h]
  rfl
theorem get_mem {α : Type} {l : List α} {i : Nat} {y : α} (h : l[i]? = some y) : y ∈ l := List.mem_of_getElem? h
theorem get_lt {α : Type} {l : List α} {i : Nat} {y : α} (h : l[i]? = some y) : i < l.length := (List.getElem?_eq_some_iff.mp h).1
theorem get_of {α : Type} {l : List α} {i : Nat} (h : i < l.length) : ∃ y, l[i]? = some y := ⟨_, List.getElem?_eq_getElem h⟩
theorem take_snoc {α : Type} {l : List α} {i : Nat} {y : α} (h : l[i]? = some y) : l.take (i + 1) = l.take i ++ [y] := by
  rw [List.take_add_one, h]
  rfl
section
variable {P : Program} {w : World} {K : PySem.W.Frag} {mg : Str → Option Value} {base : Heap}
theorem scPick : FnScope ["_law_row", "_law_things"] ["_law_row", "_law_things"] (defScope sPick) := ⟨rfl, rfl, rfl, by decide +kernel, rfl, by decide +kernel, by decide +kernel⟩
def spPick (K : PySem.W.Frag) : Sp := fun vs H Q _ => ∃ (q t : Addr) (xs : List V), vs = [.ref q, .ref t] ∧ RowAt K H q ∧ H t = some (.lst xs) ∧ t ≠ q ∧ 1 ≤ xs.length ∧ xs.length ≤ 1000 ∧ ∀ (H' : Hp) (x : V), x ∈ xs → SameX q H H' → RowAt K H' q → Q x H'
theorem ok_pick {f fT : Addr} {fd fdT : FuncData} (F : Fun K "_law_pick" "_law_pick" sPick f fd) (FT : Fun K "_law_taken" "_law_taken" sTaken fT fdT) (bT : Binds K fdT ["_law_row", "_law_many"] []) (gT : mg "_law_taken" = some (.ref fT)) (B : Free mg) :
    FnOk P w K mg base CX0 2 f fd ["_law_row", "_law_things"] (spPick K) := by
  have GT : FnOk P w K mg base CX0 1 fT fdT ["_law_row", "_law_many"] (spTaken K) := ok_taken FT B
  refine F.ok scPick (fun vs H Q E h => ?_) (fun cdv A outer s H vs Q E hr h => ?_)
  · obtain ⟨q, t, xs, rfl, _⟩ := h
    rfl
  · obtain ⟨q, t, xs, rfl, R, ht, ne, h1, h2, Qk⟩ := h
    refine ⟨_, pss_one (ps_ret (pe_ix ix_list (pv 1) (pe_call GT hr (by rfl) gT FT.kp bT .nil pass0 (pa_cons (pv 0) (pa_cons (pe_callB call_len_seq (by rfl) B.len PySem.boot_len (pa_cons (pv 1) pa_nil)) pa_nil))) (fun _ _ => rfl))), ?_⟩
    refine ⟨_, rfl, _, rfl, _, rfl, t, xs, rfl, .inl (.of ht), q, xs.length, rfl, R, h1, by omega, fun H' r hr' sx R' => ?_⟩
    exact ⟨t, xs, r, xs[r], rfl, rfl, .of (sx t _ ne ht), atI_nat (List.getElem?_eq_getElem hr'), Qk H' _ (List.getElem_mem hr') sx R'⟩
theorem scOrder : FnScope ["_law_row", "_law_many", "_law_left", "_law_found", "_law_turn", "_law_at"] ["_law_row", "_law_many"] (defScope sOrder) := ⟨rfl, rfl, rfl, by decide +kernel, rfl, by decide +kernel, by decide +kernel⟩
def spOrder (K : PySem.W.Frag) : Sp := fun vs H Q _ => ∃ (q : Addr) (m : Nat), vs = [.ref q, iv m] ∧ RowAt K H q ∧ m ≤ 1000 ∧ ∀ (H' : Hp) (p : Addr) (l : List Nat), l.Perm (List.range m) → SameX q H H' → RowAt K H' q → H p = none → p ≠ q → H' p = some (.lst (l.map iv)) → Q (.ref p) H'
theorem cut_lo {xs : List V} {k : Nat} : cutV xs none (some (k : Int)) = xs.take k := by
  show (xs.drop 0).take (HT.sIx xs.length xs.length (some (k : Int)) - 0) = xs.take k
  rw [HT.sIx_nat, List.drop_zero, Nat.sub_zero, ← List.take_eq_take_min]
theorem cut_hi {xs : List V} {k : Nat} : cutV xs (some (k : Int)) none = xs.drop k := by
  show (xs.drop (HT.sIx xs.length 0 (some (k : Int)))).take (xs.length - HT.sIx xs.length 0 (some (k : Int))) = xs.drop k
  rw [HT.sIx_nat]
  rcases Nat.le_total k xs.length with h | h
  · rw [Nat.min_eq_left h]
    exact List.take_of_length_le (by rw [List.length_drop]; exact Nat.le_refl _)
  · rw [Nat.min_eq_right h]
    simp [List.drop_of_length_le h]
theorem ok_order {f fT : Addr} {fd fdT : FuncData} (F : Fun K "_law_order" "_law_order" sOrder f fd) (FT : Fun K "_law_taken" "_law_taken" sTaken fT fdT) (bT : Binds K fdT ["_law_row", "_law_many"] []) (gT : mg "_law_taken" = some (.ref fT)) (B : Free mg) :
    FnOk P w K mg base CX0 2 f fd ["_law_row", "_law_many"] (spOrder K) := by
  have GT : FnOk P w K mg base CX0 1 fT fdT ["_law_row", "_law_many"] (spTaken K) := ok_taken FT B
  refine F.ok scOrder (fun vs H Q E h => ?_) (fun cdv A outer s H vs Q E hr h => ?_)
  · obtain ⟨q, m, rfl, _⟩ := h
    rfl
  · obtain ⟨q, m, rfl, R, hm, Qk⟩ := h
    refine ⟨_, pss_cons (ps_par (i := 2) (j := 3) (by rfl) scOrder.nd rfl rfl (by decide) rfl rfl (pa_cons (pe_listRg (by rfl) (by rfl) B.list (prg_1 (by rfl) B.range (pv 1))) (pa_cons (pe_lst pa_nil) pa_nil)) (by rfl))
      (pss_cons (ps_for PassesOwn.never rfl (pi_range1 (by rfl) B.range (pa_cons (pv 1) pa_nil)) (pg_name (i := 4) scOrder.nd rfl (.inl rfl))
        (pss_cons (ps_set (i := 5) scOrder.nd rfl (.inl rfl) (pe_call GT hr (by rfl) gT FT.kp bT .nil pass0 (pa_cons (pv 0) (pa_cons (pe_callB call_len_seq (by rfl) B.len PySem.boot_len (pa_cons (pv 2) pa_nil)) pa_nil))))
        (pss_cons (ps_expr (pe_bm PySem.F.plainAttrs_list PySem.F.slot_list_append PySem.F.type_list_append mt_append (pv 3) (pa_cons (pe_ix ix_list (pv 2) (pv 5) (fun _ _ => rfl)) pa_nil)))
        (pss_one (ps_set (i := 2) scOrder.nd rfl (.inl rfl) (pe_op op_cat (pe_slice sl_list (pv 2) po_none (po_some (pv 5))) (pe_slice sl_list (pv 2) (po_some (pe_op op_add (pv 5) pe_int)) po_none)))))))
      (pss_one (ps_ret (pv 3)))), ?_⟩
    refine ⟨_, rfl, m, rfl, RgOk.of_le (by omega) (by omega) (by omega) (by omega), fun l hl => ?_⟩
    refine ⟨Nat.zero_le _, fun d hd => ⟨_, _, rfl, ?_⟩⟩
    have hld : l ≠ d := fun e => by
      rw [e, upd_same] at hd
      cases hd
    have hl2 : upd (upd H l (.lst (rgV 0 m))) d (.lst []) l = some (.lst ((List.range m).map iv)) := by
      rw [upd_ne hld, upd_same]
      unfold rgV
      rw [show ((m : Int) - 0).toNat = m by omega]
      congr 2
      refine List.map_congr_left fun i _ => ?_
      show V.int (0 + (i : Int)) = V.int (i : Int)
      rw [Int.zero_add]
    have hd0 : H d = none := by
      rw [upd_ne hld.symm] at hd
      exact hd
    have S1 : Same H (upd (upd H l (.lst (rgV 0 m))) d (.lst [])) := same_upd (same_upd (.refl H) hl) hd0
    have R1 := (R.new (o := .lst (rgV 0 m)) hl).new (o := .lst []) hd
    have hqd : d ≠ q := R.ne hd0
    refine ⟨_, rfl, m, rfl, by omega, by omega, ?_⟩
    refine for_range (lo := 0) (n := (m : Int).toNat) (fun i σ H1 => ∃ (l : Addr) (L Fd : List Nat) (x4 x5 : Option V), σ = [some (.ref q), some (iv m), some (.ref l), some (.ref d), x4, x5] ∧ L.length + i = m ∧ Fd.length = i ∧ (Fd ++ L).Perm (List.range m) ∧ l ≠ d ∧ l ≠ q ∧ H1 l = some (.lst (L.map iv)) ∧ H1 d = some (.lst (Fd.map iv)) ∧ SameX q H H1 ∧ RowAt K H1 q)
      ⟨l, List.range m, [], none, none, rfl, by simp, rfl, .refl _, hld, R.ne hl, hl2, upd_same, fun b o _ e => S1 b o e, R1⟩ (fun i σ H1 hi hP => ?_) (fun σ H1 hP => ?_)
    · obtain ⟨l, L, Fd, x4, x5, rfl, eL, eF, pm, n1, n2, h1, h2, sx, R⟩ := hP
      have hi' : i < m := by omega
      refine ⟨_, rfl, _, rfl, l, _, rfl, .inl (.of h1), q, L.length, by rw [List.length_map]; rfl, R, by omega, by omega, fun H2 r hr' sx2 R2 => ?_⟩
      have h1' := sx2 l _ n2 h1
      have h2' := sx2 d _ hqd h2
      refine ⟨_, rfl, .inl ⟨rfl, _, .of h2'⟩, _, rfl, _, rfl, l, _, r, _, rfl, rfl, .of h1', atI_nat (gmap (List.getElem?_eq_getElem hr')), d, _, _, rfl, rfl, h2', small1000 (by rw [List.length_map]; omega), ?_⟩
      have sx3 : SameX q H (upd H2 d (.lst (Fd.map iv ++ [iv L[r]]))) := fun b o n e => by
        rw [upd_ne (ne_of_none e hd0)]
        exact sx2 b o n (sx b o n e)
      have k1 : upd H2 d (.lst (Fd.map iv ++ [iv L[r]])) l = some (.lst (L.map iv)) := by rw [upd_ne n1]; exact h1'
      have k2 : upd H2 d (.lst (Fd.map iv ++ [iv L[r]])) d = some (.lst ((Fd ++ [L[r]]).map iv)) := by rw [upd_same, List.map_append]; rfl
      have R3 : RowAt K (upd H2 d (.lst (Fd.map iv ++ [iv L[r]]))) q := R2.put hqd (.inr ⟨_, h2'⟩)
      revert sx3 k1 k2 R3
      generalize upd H2 d (.lst (Fd.map iv ++ [iv L[r]])) = H3
      intro sx3 k1 k2 R3
      -- left[:at] + left[at + 1:]
      refine ⟨_, rfl, _, rfl, r, rfl, l, _, rfl, .of k1, fun p1 np1 => ?_⟩
      have n4 : l ≠ p1 := ne_of_none k1 np1
      have n5 : d ≠ p1 := ne_of_none k2 np1
      refine ⟨_, rfl, _, rfl, r, 1, rfl, rfl, (r : Int) + 1, rfl, l, _, rfl, .of (by rw [upd_ne n4]; exact k1), fun p2 np2 => ?_⟩
      have n6 : p1 ≠ p2 := fun e => by rw [← e, upd_same] at np2; cases np2
      rw [upd_ne n6.symm] at np2
      have n7 : l ≠ p2 := ne_of_none k1 np2
      have n8 : d ≠ p2 := ne_of_none k2 np2
      refine ⟨p1, p2, _, _, rfl, rfl, by rw [upd_ne n6, upd_same], upd_same, ?_, fun p3 np3 => ?_⟩
      · refine line_big ?_
        rw [cut_lo, show ((r : Int) + 1) = ((r + 1 : Nat) : Int) by omega, cut_hi, List.length_take, List.length_drop, List.length_map]
        omega
      · have n9 : p3 ≠ p2 := fun e => by rw [e, upd_same] at np3; cases np3
        rw [upd_ne n9] at np3
        have n10 : p3 ≠ p1 := fun e => by rw [e, upd_same] at np3; cases np3
        rw [upd_ne n10] at np3
        have n11 : d ≠ p3 := ne_of_none k2 np3
        have R4 := ((R3.new (o := .lst (cutV (L.map iv) none (some (r : Int)))) np1).new (p := p2) (o := .lst (cutV (L.map iv) (some ((r : Int) + 1)) none)) (by rw [upd_ne n6.symm]; exact np2)).new (p := p3) (o := .lst ((L.take r ++ L.drop (r + 1)).map iv)) (by rw [upd_ne n9, upd_ne n10]; exact np3)
        have el : cutV (L.map iv) none (some (r : Int)) ++ cutV (L.map iv) (some ((r : Int) + 1)) none = (L.take r ++ L.drop (r + 1)).map iv := by
          rw [cut_lo, show ((r : Int) + 1) = ((r + 1 : Nat) : Int) by omega, cut_hi, List.map_append, List.map_take, List.map_drop]
        have dr : L.drop r = L[r] :: L.drop (r + 1) := List.drop_eq_getElem_cons hr'
        have pl : (L[r] :: (L.take r ++ L.drop (r + 1))).Perm L := by
          have := List.take_append_drop r L
          rw [dr] at this
          have q : (L.take r ++ L[r] :: L.drop (r + 1)).Perm (L[r] :: (L.take r ++ L.drop (r + 1))) := List.perm_middle
          rw [this] at q
          exact q.symm
        have pm' : ((Fd ++ [L[r]]) ++ (L.take r ++ L.drop (r + 1))).Perm (List.range m) := by
          rw [List.append_assoc]
          exact ((List.Perm.append_left Fd pl)).trans pm
        refine ⟨p3, L.take r ++ L.drop (r + 1), Fd ++ [L[r]], _, _, rfl, ?_, by simp [eF], pm', n11.symm, R3.ne np3, ?_, ?_, ?_, ?_⟩
        · rw [List.length_append, List.length_take, List.length_drop]
          omega
        · rw [upd_same, el]
        · rw [upd_ne n11, upd_ne n8, upd_ne n5]; exact k2
        · exact ((sx3.new np1).new (by rw [upd_ne n6.symm]; exact np2)).new (by rw [upd_ne n9, upd_ne n10]; exact np3)
        · rw [el]; exact R4
    · obtain ⟨l, L, Fd, x4, x5, rfl, eL, eF, pm, n1, n2, h1, h2, sx, R⟩ := hP
      have e0 : L = [] := List.length_eq_zero_iff.mp (by omega)
      subst e0
      rw [List.append_nil] at pm
      exact ⟨_, rfl, Qk H1 d Fd pm sx R hd0 hqd h2⟩
end
end Nh
namespace Nh
open PySem PySem.Spec PyProof.Rows L2
section
variable {P : Program} {w : World} {K : PySem.W.Frag} {mg : Str → Option Value} {base : Heap}
theorem scIsW : FnScope ["value", "one"] ["value"] (defScope sIsW) := ⟨rfl, rfl, rfl, by decide +kernel, rfl, by decide +kernel, by decide +kernel⟩
def spIsW : Sp := fun vs H Q _ => ∃ (t : Addr) (ws : List Int), vs = [.ref t] ∧ H t = some (.tup (ws.map V.int)) ∧ 2 ≤ ws.length ∧ ws.length ≤ 8 ∧ (∀ x ∈ ws, 0 ≤ x ∧ x ≤ 100) ∧ 0 < ws.sum ∧ ∀ H', Same H H' → Q (.bl true) H'
theorem ok_isw {f fI : Addr} {fd fdI : FuncData} {t1 t2 : Tok} (F : Fun K "is_weights" "is_weights" sIsW f fd) (FI : Fun K "is_in" "is_in" sIsIn fI fdI) (bI : Binds K fdI ["value", "least", "most"] []) (gI : mg "is_in" = some (.ref fI)) (gM : mg "MOST_WEIGHT" = some (.int 100 t1)) (gP : mg "MOST_POINTS" = some (.int 8 t2)) (B : Free mg) :
    FnOk P w K mg base CX0 2 f fd ["value"] spIsW := by
  have GI : FnOk P w K mg base CX0 1 fI fdI ["value", "least", "most"] spIsIn := ok_isin FI B
  refine F.ok scIsW (fun vs H Q E h => ?_) (fun cdv A outer s H vs Q E hr h => ?_)
  · obtain ⟨t, ws, rfl, _⟩ := h
    rfl
  · obtain ⟨t, ws, rfl, ht, h2, h8, hw, hs, q⟩ := h
    refine ⟨_, pss_cons (ps_if (PW.pt (pw_or (pt_not (pt_val (pe_callB call_isi (by rfl) B.isinstance boot_isinstance (pa_cons (pv 0) (pa_cons (pe_bltn (v := .ty "tuple") (by rfl) B.tuple bt_tuple rfl) pa_nil)))))
        (pw_or1 (pt_not (pt_chain op_le op_le pe_int (pe_callB call_len (by rfl) B.len PySem.boot_len (pa_cons (pv 0) pa_nil)) (pe_glob (v := .int 8) (by rfl) gP ⟨_, rfl⟩)))))) (pss_one ps_never) pss_nil)
      (pss_one (ps_ret (pe_and (pe_cmpR (op_eqD hr.units)
          (pe_lc (own := [("one", 1)]) (g := gName 1) (by rfl) scIsW.nd (pi_tup (pv 0)) (blkOk_by (own := [("one", 1)]) (N := ["value", "one"]) (sc := defScope sIsW) (by decide +kernel))
            (fun _ _ _ _ _ => pg_name (i := 1) scIsW.nd rfl (Or.inl rfl))
            (fun _ _ _ _ _ => pts_one (pt_not (pt_val (pe_call GI hr (by rfl) gI FI.kp bI .nil pass0 (pa_cons (pv 1) (pa_cons pe_int (pa_cons (pe_glob (v := .int 100) (by rfl) gM ⟨_, rfl⟩) pa_nil)))))))
            (fun _ _ _ _ _ => pv 1))
          (pe_lst pa_nil) (nomark _))
        (pe_one (pe_cmpR op_gt (pe_callB (cr_sumT rfl) (by rfl) B.sum bt_sum (pa_cons (pv 0) pa_nil)) pe_int (nomark _)))))), ?_⟩
    refine ⟨_, rfl, _, _, _, _, true, rfl, .ty _, .base (.tup ht), kit_ty (by decide +kernel), true, rfl, iteF ?_⟩
    refine ⟨_, rfl, _, ws.length, rfl, .inr ⟨_, .of ht, by rw [List.length_map]⟩, 2, ws.length, rfl, rfl, _, rfl, ?_⟩
    have e1 : decide ((2 : Int) ≤ (ws.length : Int)) = true := decide_eq_true (by omega)
    have e2 : decide ((ws.length : Int) ≤ 8) = true := decide_eq_true (by omega)
    rw [e1]
    refine iteT ⟨ws.length, 8, rfl, rfl, _, rfl, ?_⟩
    rw [e2]
    refine iteF ?_
    refine ⟨_, rfl, t, rfl, ⟨_, .of ht⟩, fun D hD => lc_tup (K := K) (a := t) (xs := ws.map V.int) (fun i H1 => Same H H1 ∧ H1 D = some (.lst [])) ⟨same_new (.refl H) hD, upd_same⟩ (fun i H1 _ hP => sq_t hP.1 ht) (fun i x H1 hx hP => ?_) (fun H1 hP => ?_)⟩
    · obtain ⟨v, hv, rfl⟩ := mget hx
      have R := hw v (get_mem hv)
      exact ⟨rfl, _, rfl, v, 0, 100, rfl, true, congrArg V.bl (decide_eq_true R), iteF hP⟩
    · obtain ⟨S, eD⟩ := hP
      refine ⟨Nat.zero_le _, fun p np => ?_⟩
      have S2 := same_new (o := .lst []) S np
      have n1 : D ≠ p := ne_of_none eD np
      refine ⟨.list [], .list [], .lst (.of (by rw [upd_ne n1]; exact eD)) .nil, .lst (.of upd_same) .nil, shaped_nil, shaped_nil, true, congrArg V.bl (by simp [PyData.eqv, PyData.eqvAll]), iteT ?_⟩
      refine ⟨_, rfl, t, ws, rfl, sq_t S2 ht, _, 0, rfl, rfl, ?_⟩
      show Q (.bl (decide (0 < ws.sum))) _
      rw [decide_eq_true hs]
      exact q _ S2
theorem scNeedP : FnScope ["web", "point"] ["web", "point"] (defScope sNeedP) := ⟨rfl, rfl, rfl, by decide +kernel, rfl, by decide +kernel, by decide +kernel⟩
def spNeedP : Sp := fun vs H Q _ => ∃ (t tw tr : Addr) (xs : List V) (p : Nat), vs = [.ref t, iv p] ∧ H t = some (.tup [.ref tw, .ref tr]) ∧ H tw = some (.tup xs) ∧ p < xs.length ∧ Q .non H
theorem ok_needp {f fI : Addr} {fd fdI : FuncData} (F : Fun K "need_point" "need_point" sNeedP f fd) (FI : Fun K "is_in" "is_in" sIsIn fI fdI) (bI : Binds K fdI ["value", "least", "most"] []) (gI : mg "is_in" = some (.ref fI)) (B : Free mg) :
    FnOk P w K mg base CX0 2 f fd ["web", "point"] spNeedP := by
  have GI : FnOk P w K mg base CX0 1 fI fdI ["value", "least", "most"] spIsIn := ok_isin FI B
  refine F.ok scNeedP (fun vs H Q E h => ?_) (fun cdv A outer s H vs Q E hr h => ?_)
  · obtain ⟨t, tw, tr, xs, p, rfl, _⟩ := h
    rfl
  · obtain ⟨t, tw, tr, xs, p, rfl, ht, htw, hp, q⟩ := h
    refine ⟨_, pss_one (ps_if (pt_not (pt_val (pe_call GI hr (by rfl) gI FI.kp bI .nil pass0 (pa_cons (pv 1) (pa_cons pe_int (pa_cons (pe_op op_sub (pe_callB call_len (by rfl) B.len PySem.boot_len (pa_cons (pe_ix ix_tup (pv 0) pe_int (fun _ _ => rfl)) pa_nil)) pe_int) pa_nil)))))) (pss_one ps_never) pss_nil), ?_⟩
    exact ⟨_, rfl, _, rfl, t, _, 0, _, rfl, rfl, .of ht, atI_nat (j := 0) rfl, _, xs.length, rfl, .inr ⟨_, .of htw, rfl⟩, xs.length, 1, rfl, rfl, p, 0, (xs.length : Int) - 1, rfl, true, congrArg V.bl (decide_eq_true ⟨by omega, by omega⟩), iteF q⟩
/-! ### the law's equality -/
theorem scAlike : FnScope ["_law_found", "_law_due", "_law_k"] ["_law_found", "_law_due"] (defScope sAlike) := ⟨rfl, rfl, rfl, by decide +kernel, rfl, by decide +kernel, by decide +kernel⟩
/-- two values of one shape: ints, or tuples of such -/
def Al : Nat → Hp → V → V → Prop
  | 0, _, x, y => ∃ i : Int, x = .int i ∧ y = .int i
  | k + 1, H, x, y => ∃ (p q : Addr) (xs ys : List V), x = .ref p ∧ y = .ref q ∧ H p = some (.tup xs) ∧ H q = some (.tup ys) ∧ xs.length = ys.length ∧ ys.length ≤ 1000 ∧ ∀ (i : Nat) (u v : V), xs[i]? = some u → ys[i]? = some v → Al k H u v
theorem Al.same : ∀ {k : Nat} {H H' : Hp} {x y : V}, Same H H' → Al k H x y → Al k H' x y
  | 0, _, _, _, _, _, ⟨i, h1, h2⟩ => ⟨i, h1, h2⟩
  | k + 1, H, H', x, y, S, ⟨p, q, xs, ys, e1, e2, h1, h2, h3, h4, h5⟩ => ⟨p, q, xs, ys, e1, e2, S _ _ h1, S _ _ h2, h3, h4, fun i u v a b => Al.same S (h5 i u v a b)⟩
def spAlike (k : Nat) : Sp := fun vs H Q _ => ∃ x y, vs = [x, y] ∧ Al k H x y ∧ ∀ H', Same H H' → Q (.bl true) H'
theorem ok_alike0 {f : Addr} {fd : FuncData} (F : Fun K "_law_alike" "_law_alike" sAlike f fd) (B : Free mg) : FnOk P w K mg base CX0 1 f fd ["_law_found", "_law_due"] (spAlike 0) := by
  refine F.ok scAlike (fun vs H Q E h => ?_) (fun cdv A outer s H vs Q E hr h => ?_)
  · obtain ⟨x, y, rfl, _⟩ := h
    rfl
  · obtain ⟨x, y, rfl, ⟨i, rfl, rfl⟩, q⟩ := h
    refine ⟨_, pss_cons (ps_if (pt_val (pe_callB call_isiT (by rfl) B.isinstance boot_isinstance (pa_cons (pv 1) (pa_cons (pe_tup (pa_cons (pe_bltn (v := .ty "tuple") (by rfl) B.tuple bt_tuple rfl) (pa_cons (pe_bltn (v := .ty "list") (by rfl) B.list bt_list rfl) pa_nil))) pa_nil))))
        (pss_cons ps_never (pss_cons ps_never (pss_one ps_never))) pss_nil)
      (pss_cons (ps_if (PW.pt (pw_or (pt_cmpR op_isN (pv 1) pe_non (nomark _)) (pw_or1 (pt_val (pe_callB call_isi (by rfl) B.isinstance boot_isinstance (pa_cons (pv 1) (pa_cons (pe_bltn (v := .ty "str") (by rfl) B.str bt_str rfl) pa_nil)))))))
        (pss_one ps_never) pss_nil)
      (pss_one (ps_ret (pe_and (pe_callB call_isi (by rfl) B.isinstance boot_isinstance (pa_cons (pv 0) (pa_cons (pe_bltn (v := .ty "int") (by rfl) B.int bt_int rfl) pa_nil)))
        (pe_and (pe_cmpR op_eq (pe_callB call_isi (by rfl) B.isinstance boot_isinstance (pa_cons (pv 0) (pa_cons (pe_bltn (v := .ty "bool") (by rfl) B.bool bt_bool rfl) pa_nil))) (pe_callB call_isi (by rfl) B.isinstance boot_isinstance (pa_cons (pv 1) (pa_cons (pe_bltn (v := .ty "bool") (by rfl) B.bool bt_bool rfl) pa_nil))) (nomark _))
          (pe_one (pe_cmpR op_eq (pv 0) (pv 1) (nomark _)))))))), ?_⟩
    refine ⟨_, rfl, line_big (by decide), fun p np => ?_⟩
    have S := same_new (o := .tup [.ty "tuple", .ty "list"]) (.refl H) np
    refine ⟨_, p, _, _, _, false, rfl, upd_same, .cons (.ty _) (.cons (.ty _) .nil), .base (.int i), kitAny_cons (b := false) (kit_ty (by decide +kernel)) (fun _ => kitAny_cons (b := false) (kit_ty (by decide +kernel)) (fun _ => kitAny_nil) (fun z => nomatch z)) (fun z => nomatch z), false, rfl, iteF ?_⟩
    refine ⟨_, rfl, rfl, false, rfl, iteF ⟨_, rfl, _, _, _, _, false, rfl, .ty _, .base (.int i), kit_ty (by decide +kernel), false, rfl, iteF ?_⟩⟩
    refine ⟨_, rfl, _, _, _, _, true, rfl, .ty _, .base (.int i), kit_ty (by decide +kernel), true, rfl, iteT ?_⟩
    refine ⟨_, rfl, _, _, _, _, false, rfl, .ty _, .base (.int i), kit_ty (by decide +kernel), _, rfl, _, _, _, _, false, rfl, .ty _, .base (.int i), kit_ty (by decide +kernel), rfl, true, rfl, iteT ?_⟩
    refine ⟨_, rfl, _, rfl, rfl, ?_⟩
    rw [decide_eq_true (show V.int i = V.int i from rfl)]
    exact q _ S
theorem ok_alikeS {f : Addr} {fd : FuncData} {k : Nat} (F : Fun K "_law_alike" "_law_alike" sAlike f fd) (bA : Binds K fd ["_law_found", "_law_due"] []) (gA : mg "_law_alike" = some (.ref f)) (B : Free mg)
    (IH : FnOk P w K mg base CX0 (k + 1) f fd ["_law_found", "_law_due"] (spAlike k)) : FnOk P w K mg base CX0 (k + 1 + 1) f fd ["_law_found", "_law_due"] (spAlike (k + 1)) := by
  refine F.ok scAlike (fun vs H Q E h => ?_) (fun cdv A outer s H vs Q E hr h => ?_)
  · obtain ⟨x, y, rfl, _⟩ := h
    rfl
  · obtain ⟨x, y, rfl, ⟨a, b, xs, ys, rfl, rfl, ha, hb, hl, h1000, hal⟩, q⟩ := h
    refine ⟨_, pss_cons (ps_if (pt_val (pe_callB call_isiT (by rfl) B.isinstance boot_isinstance (pa_cons (pv 1) (pa_cons (pe_tup (pa_cons (pe_bltn (v := .ty "tuple") (by rfl) B.tuple bt_tuple rfl) (pa_cons (pe_bltn (v := .ty "list") (by rfl) B.list bt_list rfl) pa_nil))) pa_nil))))
        (pss_cons (ps_if (PW.pt (pw_or (pt_not (pt_val (pe_callB call_isiT (by rfl) B.isinstance boot_isinstance (pa_cons (pv 0) (pa_cons (pe_tup (pa_cons (pe_bltn (v := .ty "tuple") (by rfl) B.tuple bt_tuple rfl) (pa_cons (pe_bltn (v := .ty "list") (by rfl) B.list bt_list rfl) pa_nil))) pa_nil)))))
            (pw_or1 (pt_cmpR op_ne (pe_callB call_isi (by rfl) B.isinstance boot_isinstance (pa_cons (pv 0) (pa_cons (pe_bltn (v := .ty "list") (by rfl) B.list bt_list rfl) pa_nil))) (pe_callB call_isi (by rfl) B.isinstance boot_isinstance (pa_cons (pv 1) (pa_cons (pe_bltn (v := .ty "list") (by rfl) B.list bt_list rfl) pa_nil))) (nomark _))))) (pss_one ps_never) pss_nil)
        (pss_cons (ps_if (pt_cmpR op_ne (pe_callB call_len (by rfl) B.len PySem.boot_len (pa_cons (pv 0) pa_nil)) (pe_callB call_len (by rfl) B.len PySem.boot_len (pa_cons (pv 1) pa_nil)) (nomark _)) (pss_one ps_never) pss_nil)
        (pss_one (ps_ret (pe_cmpR (op_eqD hr.units)
          (pe_lc (own := [("_law_k", 2)]) (g := gName 2) (by rfl) scAlike.nd (pi_range1 (by rfl) B.range (pa_cons (pe_callB call_len (by rfl) B.len PySem.boot_len (pa_cons (pv 1) pa_nil)) pa_nil)) (blkOk_by (own := [("_law_k", 2)]) (N := ["_law_found", "_law_due", "_law_k"]) (sc := defScope sAlike) (by decide +kernel))
            (fun _ _ _ _ _ => pg_name (i := 2) scAlike.nd rfl (Or.inl rfl))
            (fun _ _ _ _ _ => pts_one (pt_not (pt_val (pe_call IH hr (by rfl) gA F.kp bA .nil pass0 (pa_cons (pe_ix (r := rIxT K) ix_tup (pv 0) (pv 2) (fun _ _ => rfl)) (pa_cons (pe_ix (r := rIxT K) ix_tup (pv 1) (pv 2) (fun _ _ => rfl)) pa_nil))))))
            (fun _ _ _ _ _ => pv 2))
          (pe_lst pa_nil) (nomark _)))))) pss_nil)
      (pss_cons ps_never (pss_one ps_never)), ?_⟩
    refine ⟨_, rfl, line_big (by decide), fun p np => ?_⟩
    have S := same_new (o := .tup [.ty "tuple", .ty "list"]) (.refl H) np
    generalize hH1 : upd H p (HO.tup [V.ty "tuple", V.ty "list"]) = H1 at S ⊢
    have hp1 : H1 p = some (.tup [.ty "tuple", .ty "list"]) := by rw [← hH1]; exact upd_same
    refine ⟨_, p, _, _, _, true, rfl, hp1, .cons (.ty _) (.cons (.ty _) .nil), .base (.tup (S _ _ hb)), kitAny_cons (b := true) (kit_ty (by decide +kernel)) (fun z => nomatch z) (fun _ => rfl), true, rfl, iteT ?_⟩
    refine ⟨_, rfl, line_big (by decide), fun p2 np2 => ?_⟩
    have S2 := same_new (o := .tup [.ty "tuple", .ty "list"]) S np2
    generalize hH2 : upd H1 p2 (HO.tup [V.ty "tuple", V.ty "list"]) = H2 at S2 ⊢
    have hp2 : H2 p2 = some (.tup [.ty "tuple", .ty "list"]) := by rw [← hH2]; exact upd_same
    refine ⟨_, p2, _, _, _, true, rfl, hp2, .cons (.ty _) (.cons (.ty _) .nil), .base (.tup (S2 _ _ ha)), kitAny_cons (b := true) (kit_ty (by decide +kernel)) (fun z => nomatch z) (fun _ => rfl), true, rfl, iteF ?_⟩
    refine ⟨_, rfl, _, _, _, _, false, rfl, .ty _, .base (.tup (S2 _ _ ha)), kit_ty (by decide +kernel), _, rfl, _, _, _, _, false, rfl, .ty _, .base (.tup (S2 _ _ hb)), kit_ty (by decide +kernel), rfl, false, rfl, iteF ?_⟩
    refine ⟨_, rfl, _, xs.length, rfl, .inr ⟨_, .of (S2 _ _ ha), rfl⟩, _, rfl, _, ys.length, rfl, .inr ⟨_, .of (S2 _ _ hb), rfl⟩, rfl, false, ?_, iteF ?_⟩
    · rw [hl]
      rw [decide_eq_true (show V.int (ys.length : Int) = V.int (ys.length : Int) from rfl)]
      rfl
    refine ⟨_, rfl, _, ys.length, rfl, .inr ⟨_, .of (S2 _ _ hb), rfl⟩, ys.length, rfl, by omega, by omega, fun D hD => lc_range (lo := 0) (n := (ys.length : Int).toNat) (fun i H1 => Same H H1 ∧ H1 D = some (.lst [])) ⟨same_new S2 hD, upd_same⟩ (fun i H3 hi hP => ?_) (fun H3 hP => ?_)⟩
    · have hi' : i < ys.length := by omega
      obtain ⟨v, hv⟩ := get_of hi'
      obtain ⟨u, hu⟩ := get_of (l := xs) (i := i) (by omega)
      refine ⟨rfl, _, rfl, _, rfl, a, xs, 0 + (i : Int), u, rfl, rfl, sq_t hP.1 ha, at_of (j := i) (by omega) hu, _, rfl, _, rfl, b, ys, 0 + (i : Int), v, rfl, rfl, sq_t hP.1 hb, at_of (j := i) (by omega) hv, u, v, rfl, (hal i u v hu hv).same hP.1, fun H4 S4 => ?_⟩
      exact ⟨true, rfl, iteF ⟨hP.1.trans S4, S4 _ _ hP.2⟩⟩
    · obtain ⟨S3, eD⟩ := hP
      refine ⟨Nat.zero_le _, fun p3 np3 => ?_⟩
      have S4 := same_new (o := .lst []) S3 np3
      have n1 : D ≠ p3 := ne_of_none eD np3
      refine ⟨.list [], .list [], .lst (.of (by rw [upd_ne n1]; exact eD)) .nil, .lst (.of upd_same) .nil, shaped_nil, shaped_nil, ?_⟩
      rw [show PyData.eqv (.list []) (.list []) = true by simp [PyData.eqv, PyData.eqvAll]]
      exact q _ S4
end
end Nh
namespace Nh
open PySem PySem.Spec PyProof.Rows L2
/-! ### webs on the heap -/
def RoadsAt (H : Hp) (tr : Addr) (rs : List Road) : Prop := ∃ ts : List Addr, H tr = some (.tup (ts.map V.ref)) ∧ ts.length = rs.length ∧ ∀ (i : Nat) (t : Addr) (r : Road), ts[i]? = some t → rs[i]? = some r → H t = some (.tup [iv r.1, iv r.2.1, iv r.2.2])
theorem RoadsAt.same {H H' : Hp} {tr : Addr} {rs : List Road} (S : Same H H') (h : RoadsAt H tr rs) : RoadsAt H' tr rs := by
  obtain ⟨ts, h1, h2, h3⟩ := h
  exact ⟨ts, S _ _ h1, h2, fun i t r a b => S _ _ (h3 i t r a b)⟩
def WebAt (H : Hp) (v : Addr) (ws : List Int) (rs : List Road) : Prop := ∃ tw tr, H v = some (.tup [.ref tw, .ref tr]) ∧ H tw = some (.tup (ws.map V.int)) ∧ RoadsAt H tr rs
theorem WebAt.same {H H' : Hp} {v : Addr} {ws : List Int} {rs : List Road} (S : Same H H') (h : WebAt H v ws rs) : WebAt H' v ws rs := by
  obtain ⟨tw, tr, h1, h2, h3⟩ := h
  exact ⟨tw, tr, S _ _ h1, S _ _ h2, h3.same S⟩
/-- joined -/
def Conn (n : Nat) (rs : List Road) : Prop := ∀ S : Nat → Prop, S 0 → (∀ x y l, Adj rs x y l → S x → S y) → ∀ i, i < n → S i
theorem Good.conn {n : Nat} {ws : List Int} {rs : List Road} (G : Good n ws rs) : Conn n rs := fun S h0 hs i => by
  induction i using Nat.strongRecOn with
  | _ i ih =>
    intro hi
    by_cases e : i = 0
    · subst e; exact h0
    · obtain ⟨⟨a, b, l⟩, hr, eb⟩ := G.tree i (by omega) hi
      have R := G.rd _ hr
      simp only at R eb
      subst eb
      exact hs a b l (.inl hr) (ih a R.1 (by omega))
/-! ### the search for the parts -/
def addIf (u one other : Nat) (part : List Nat) : List Nat := if one = u ∧ other ∉ part then part ++ [other] else part
def stepR (u : Nat) (part : List Nat) (r : Road) : List Nat := addIf u r.2.1 r.1 (addIf u r.1 r.2.1 part)
/-- what a part keeps -/
structure Pt (n : Nat) (p0 p : List Nat) : Prop where
  pre : ∃ e, p = p0 ++ e
  nd : p.Nodup
  lt : ∀ v ∈ p, v < n
theorem Pt.add {n u one other : Nat} {p0 p : List Nat} (h : Pt n p0 p) (ho : other < n) : Pt n p0 (addIf u one other p) ∧ (∀ v ∈ p, v ∈ addIf u one other p) ∧ (one = u → other ∈ addIf u one other p) := by
  unfold addIf
  by_cases c : one = u ∧ other ∉ p
  · rw [if_pos c]
    obtain ⟨e, he⟩ := h.pre
    refine ⟨⟨⟨e ++ [other], by rw [he]; simp⟩, nodup_append' h.nd (by simp) fun v m m2 => ?_, fun v m => ?_⟩, fun v m => List.mem_append_left _ m, fun _ => by simp⟩
    · rw [List.mem_singleton.mp m2] at m
      exact c.2 m
    · rcases List.mem_append.mp m with m | m
      · exact h.lt v m
      · rw [List.mem_singleton.mp m]; exact ho
  · rw [if_neg c]
    exact ⟨h, fun v m => m, fun e => Classical.byContradiction fun z => c ⟨e, z⟩⟩
theorem Pt.step {n u : Nat} {r : Road} {p0 p : List Nat} (h : Pt n p0 p) (h1 : r.1 < n) (h2 : r.2.1 < n) : Pt n p0 (stepR u p r) ∧ (∀ v ∈ p, v ∈ stepR u p r) ∧ (r.1 = u → r.2.1 ∈ stepR u p r) ∧ (r.2.1 = u → r.1 ∈ stepR u p r) := by
  obtain ⟨a1, a2, a3⟩ := h.add (u := u) (one := r.1) h2
  obtain ⟨b1, b2, b3⟩ := a1.add (u := u) (one := r.2.1) h1
  exact ⟨b1, fun v m => b2 v (a2 v m), fun e => b2 _ (a3 e), b3⟩
theorem Pt.fold {n u : Nat} {rs : List Road} {p : List Nat} (h : Pt n p p) (hr : ∀ r ∈ rs, r.1 < n ∧ r.2.1 < n) : ∀ k, k ≤ rs.length → Pt n p ((rs.take k).foldl (stepR u) p) ∧ ∀ r ∈ rs.take k, (r.1 = u → r.2.1 ∈ (rs.take k).foldl (stepR u) p) ∧ (r.2.1 = u → r.1 ∈ (rs.take k).foldl (stepR u) p)
  | 0, _ => ⟨h, fun r m => by simp at m⟩
  | k + 1, hk => by
    obtain ⟨i1, i2⟩ := Pt.fold (u := u) h hr k (by omega)
    obtain ⟨r, e⟩ := get_of (l := rs) (i := k) (by omega)
    rw [take_snoc e, List.foldl_append]
    have R := hr r (get_mem e)
    obtain ⟨s1, s2, s3, s4⟩ := i1.step (u := u) R.1 R.2
    refine ⟨s1, fun r' m => ?_⟩
    rcases List.mem_append.mp m with m | m
    · exact ⟨fun e => s2 _ ((i2 r' m).1 e), fun e => s2 _ ((i2 r' m).2 e)⟩
    · rw [List.mem_singleton.mp m]; exact ⟨s3, s4⟩
/-- the search's word -/
structure Bf (n : Nat) (rs : List Road) (part : List Nat) (at_ : Nat) : Prop where
  nd : part.Nodup
  lt : ∀ v ∈ part, v < n
  zero : 0 ∈ part
  le : at_ ≤ part.length
  shut : ∀ (i u : Nat), i < at_ → part[i]? = some u → ∀ y l, Adj rs u y l → y ∈ part
theorem Bf.next {n : Nat} {rs : List Road} {part : List Nat} {k u : Nat} (h : Bf n rs part k) (hr : ∀ r ∈ rs, r.1 < n ∧ r.2.1 < n) (hu : part[k]? = some u) : Bf n rs (rs.foldl (stepR u) part) (k + 1) := by
  obtain ⟨s1, s2⟩ := Pt.fold (u := u) (rs := rs) (p := part) ⟨⟨[], by simp⟩, h.nd, h.lt⟩ hr rs.length (Nat.le_refl _)
  rw [List.take_length] at s1 s2
  obtain ⟨e, he⟩ := s1.pre
  have hk := get_lt hu
  refine ⟨s1.nd, s1.lt, ?_, ?_, fun i v hi hv y l a => ?_⟩
  · rw [he]; exact List.mem_append_left _ h.zero
  · rw [he, List.length_append]; omega
  · by_cases q : i = k
    · subst q
      rw [he, List.getElem?_append_left hk, hu] at hv
      cases hv
      rcases a with a | a
      · exact (s2 _ a).1 rfl
      · exact (s2 _ a).2 rfl
    · rw [he, List.getElem?_append_left (by omega)] at hv
      have := h.shut i v (by omega) hv y l a
      rw [he]
      exact List.mem_append_left _ this
theorem Bf.done {n : Nat} {rs : List Road} {part : List Nat} {k : Nat} (h : Bf n rs part k) (hk : part.length ≤ k) (C : Conn n rs) : ∀ i, i < n → i ∈ part := C (fun i => i ∈ part) h.zero fun x y l a m => by
  obtain ⟨i, e⟩ := List.mem_iff_getElem?.mp m
  exact h.shut i x (by have := get_lt e; omega) e y l a
theorem full_len {n : Nat} {part : List Nat} (nd : part.Nodup) (lt : ∀ v ∈ part, v < n) (all : ∀ i, i < n → i ∈ part) : part.length = n := by
  have h1 := nodup_len n part nd lt
  have h2 : ∀ (l m : List Nat), l.Nodup → (∀ x ∈ l, x ∈ m) → l.length ≤ m.length := by
    intro l
    induction l with
    | nil => intro m _ _; exact Nat.zero_le _
    | cons x l ih =>
      intro m nd h
      rw [List.nodup_cons] at nd
      have := ih (m.erase x) nd.2 fun y hy => (List.mem_erase_of_ne (fun e => nd.1 (by rw [← e]; exact hy))).mpr (h y (List.mem_cons_of_mem _ hy))
      rw [List.length_erase, if_pos (h x List.mem_cons_self)] at this
      have := List.length_pos_of_mem (h x List.mem_cons_self)
      rw [List.length_cons]
      omega
  have := h2 (List.range n) part List.nodup_range fun x hx => all x (List.mem_range.mp hx)
  rw [List.length_range] at this
  omega
theorem inV_iv (y : Nat) (l : List Nat) : inV (iv y) (l.map iv) = decide (y ∈ l) := by
  unfold inV
  rw [List.any_map]
  induction l with
  | nil => rfl
  | cons x l ih =>
    rw [List.any_cons, ih]
    show (((x : Int) == (y : Int)) || decide (y ∈ l)) = decide (y ∈ x :: l)
    by_cases e : x = y
    · subst e; simp
    · have e' : ((x : Int) == (y : Int)) = false := by simp; omega
      rw [e']
      simp [List.mem_cons, Ne.symm e]
theorem flat_iv (l : List Nat) : (l.map iv).all flatV = true := by
  rw [List.all_map]
  exact List.all_eq_true.mpr fun x _ => rfl
theorem keep_new {H : Hp} {a p : Addr} {o u : HO} (h : H a = some o) (np : H p = none) : upd H p u a = some o := by
  rw [upd_ne (ne_of_none h np)]
  exact h
theorem map_iv (l : List Nat) : l.map iv = (l.map fun k : Nat => (k : Int)).map V.int := by
  rw [List.map_map]
  rfl
section
variable {P : Program} {w : World} {K : PySem.W.Frag} {mg : Str → Option Value} {base : Heap}
abbrev nParts : List Str := ["points", "roads", "left", "found", "part", "at", "a", "b", "length", "one", "other", "x"]
theorem scParts : FnScope nParts ["points", "roads"] (defScope sParts) := ⟨rfl, rfl, rfl, by decide +kernel, rfl, by decide +kernel, by decide +kernel⟩
def spParts : Sp := fun vs H Q _ => ∃ (pp tr : Addr) (n : Nat) (rs : List Road), vs = [.ref pp, .ref tr] ∧ H pp = some (.lst ((List.range n).map iv)) ∧ RoadsAt H tr rs ∧ 2 ≤ n ∧ n ≤ 8 ∧ (∀ r ∈ rs, r.1 < n ∧ r.2.1 < n) ∧ Conn n rs ∧
  ∀ (H' : Hp) (p : Addr) (x : V), Same H H' → H p = none → H' p = some (.lst [x]) → Q (.ref p) H'
theorem ok_parts {f : Addr} {fd : FuncData} {k : Nat} (F : Fun K "parts_in" "parts_in" sParts f fd) (B : Free mg) : FnOk P w K mg base CX0 (k + 1) f fd ["points", "roads"] spParts := by
  refine F.ok scParts (fun vs H Q E h => ?_) (fun cdv A outer s H vs Q E hr h => ?_)
  · obtain ⟨pp, tr, n, rs, rfl, _⟩ := h
    rfl
  · obtain ⟨pp, tr, n, rs, rfl, hpp, hR, n2, n8, hrs, hC, Qk⟩ := h
    refine ⟨_, pss_cons (ps_par (i := 2) (j := 3) (by rfl) scParts.nd rfl rfl (by decide) rfl rfl (pa_cons (pe_callTy call_list_of (by rfl) B.list bt_list (pa_cons (pv 0) pa_nil)) (pa_cons (pe_lst pa_nil) pa_nil)) (by rfl))
      (pss_cons (ps_while PassesOwn.never (pt_cmpR (op_neD hr.units) (pv 2) (pe_lst pa_nil) (nomark _))
        (pss_cons (ps_asg (pe_tup (pa_cons (pe_lst (pa_cons (pe_ix ix_list (pv 2) pe_int (fun _ _ => rfl)) pa_nil)) (pa_cons pe_int pa_nil))) (pg_tup (by rfl) (pgs_cons (pg_name (i := 4) scParts.nd rfl (.inr rfl)) (pgs_cons (pg_name (i := 5) scParts.nd rfl (.inl rfl)) pgs_nil))))
        (pss_cons (ps_while PassesOwn.never (pt_cmpR op_lt (pv 5) (pe_callB call_len_seq (by rfl) B.len PySem.boot_len (pa_cons (pv 4) pa_nil)) (nomark _))
          (pss_cons (ps_for PassesOwn.never rfl (pi_tup (pv 1)) (pg_tup (by rfl) (pgs_cons (pg_name (i := 6) scParts.nd rfl (.inl rfl)) (pgs_cons (pg_name (i := 7) scParts.nd rfl (.inl rfl)) (pgs_cons (pg_name (i := 8) scParts.nd rfl (.inl rfl)) pgs_nil))))
            (pss_one (ps_for PassesOwn.never rfl (pi_tup (pe_tup (pa_cons (pe_tup (pa_cons (pv 6) (pa_cons (pv 7) pa_nil))) (pa_cons (pe_tup (pa_cons (pv 7) (pa_cons (pv 6) pa_nil))) pa_nil)))) (pg_tup (by rfl) (pgs_cons (pg_name (i := 9) scParts.nd rfl (.inl rfl)) (pgs_cons (pg_name (i := 10) scParts.nd rfl (.inl rfl)) pgs_nil)))
              (pss_one (ps_if (PW.pt (pw_and (pt_cmpR op_eq (pv 9) (pe_ix ix_list (pv 4) (pv 5) (fun _ _ => rfl)) (nomark _)) (pw_and (pt_cmpR op_in_seq (pv 10) (pv 2) rfl) (pw_and1 (pt_cmpR op_notIn_seq (pv 10) (pv 4) rfl)))))
                (pss_one (ps_expr (pe_bm PySem.F.plainAttrs_list PySem.F.slot_list_append PySem.F.type_list_append mt_append (pv 4) (pa_cons (pv 10) pa_nil)))) pss_nil)))))
          (pss_one (ps_aug (i := 5) scParts.nd rfl (.inl rfl) pe_int ip_add))))
        (pss_cons (ps_expr (pe_bm PySem.F.plainAttrs_list PySem.F.slot_list_append PySem.F.type_list_append mt_append (pv 3) (pa_cons (pe_callTy call_tuple_of (by rfl) B.tuple bt_tuple (pa_cons (pe_callB cr_sortedI (by rfl) B.sorted bt_sorted (pa_cons (pv 4) pa_nil)) pa_nil)) pa_nil)))
        (pss_one (ps_setLc (i := 2) (own := [("x", 11)]) (g := gName 11) (by rfl) scParts.nd rfl rfl (sw_true rfl rfl rfl (by decide +kernel)) (pi_list (pv 2)) (blkOk_by (own := [("x", 11)]) (N := nParts) (sc := defScope sParts) (by decide +kernel))
          (fun _ _ _ _ _ => pg_name (i := 11) scParts.nd rfl (Or.inl rfl))
          (fun _ _ _ _ _ => pts_one (pt_cmpR (r := rIn K true) op_notIn_seq (pv 11) (pv 4) rfl))
          (fun _ _ _ _ _ => pv 11)))))))
      (pss_one (ps_ret (pe_callB (cr_sortT (d := n) (B := 8) (by omega)) (by rfl) B.sorted bt_sorted (pa_cons (pv 3) pa_nil))))), ?_⟩
    refine ⟨_, rfl, pp, _, rfl, .inl (.of hpp), fun l hl => ⟨Nat.zero_le _, fun fo hf => ⟨_, _, rfl, ?_⟩⟩⟩
    have nlf : l ≠ fo := fun e => by
      rw [← e, upd_same] at hf
      cases hf
    have S1 := same_new (o := .lst []) (same_new (o := .lst ((List.range n).map iv)) (.refl H) hl) hf
    have hl1 := keep_new (u := .lst []) (upd_same (H := H) (a := l) (o := .lst ((List.range n).map iv))) hf
    have hf1 := upd_same (H := upd H l (.lst ((List.range n).map iv))) (a := fo) (o := .lst [])
    have hf0 : H fo = none := (same_new (o := .lst ((List.range n).map iv)) (.refl H) hl).free hf
    revert S1 hl1 hf1
    generalize upd (upd H l (.lst ((List.range n).map iv))) fo (.lst []) = H1
    intro S1 hl1 hf1
    let W : Nat → L2.St → Hp → Prop := fun m σ H1 => ∃ (l : Addr) (x4 x5 x6 x7 x8 x9 x10 x11 : Option V), σ = [some (.ref pp), some (.ref tr), some (.ref l), some (.ref fo), x4, x5, x6, x7, x8, x9, x10, x11] ∧ Same H H1 ∧ H l = none ∧ l ≠ fo ∧
      ((m = 1 ∧ H1 l = some (.lst ((List.range n).map iv)) ∧ H1 fo = some (.lst [])) ∨ (m = 0 ∧ H1 l = some (.lst []) ∧ ∃ (t : Addr) (ns : List Int), H1 fo = some (.lst [.ref t]) ∧ H1 t = some (.tup (ns.map V.int)) ∧ ns.length = n ∧ ∀ x ∈ ns, 0 ≤ x ∧ x < 8))
    refine ⟨W, ⟨1, l, none, none, none, none, none, none, none, none, rfl, S1, hl, nlf, .inl ⟨rfl, hl1, hf1⟩⟩, fun m σ H2 hW => ?_⟩
    clear hl1 hf1 S1 hl nlf l hf
    obtain ⟨l, x4, x5, x6, x7, x8, x9, x10, x11, rfl, S, hl0, nlf, hW⟩ := hW
    rcases hW with ⟨rfl, hl, hf⟩ | ⟨rfl, hl, t, ns, hf, ht, hns, hbd⟩
    · -- a part is left
      refine ⟨_, rfl, Nat.zero_le _, fun e ne => ⟨.list (((List.range n).map fun k : Nat => (k : Int)).map PyData.int), .list [], .lst (.of (keep_new (by rw [hl, map_iv]) ne)) (dp_ints _), .lst (.of upd_same) .nil, shaped_ints _, shaped_nil, true, congrArg V.bl (by rw [eqv_nil]; simp; omega), iteT ⟨W 0, fun σ' H' h => ⟨0, by decide, h⟩, ?_⟩⟩⟩
      replace S := same_new (o := .lst []) S ne
      replace hl := keep_new (u := .lst []) hl ne
      replace hf := keep_new (u := .lst []) hf ne
      revert S hl hf
      generalize upd H2 e (.lst []) = H3
      intro S hl hf
      refine ⟨_, rfl, l, _, 0, iv 0, rfl, rfl, .of hl, atI_nat (j := 0) (gmap (by rw [List.getElem?_range (by omega)])), line_big (by simp), fun D nD => ⟨line_big (by simp), fun T nT => ⟨T, [.ref D, .int 0], rfl, .of upd_same, rfl, .ref D, [.int 0], rfl, .int 0, [], rfl, rfl, ?_⟩⟩⟩
      have hD0 : H D = none := S.free nD
      have hD0 : H D = none := S.free nD
      have nlD : l ≠ D := ne_of_none hl nD
      have nfD : fo ≠ D := ne_of_none hf nD
      have hD := keep_new (u := .tup [.ref D, .int 0]) (upd_same (H := H3) (a := D) (o := .lst [iv 0])) nT
      replace S := same_new (o := .tup [.ref D, .int 0]) (same_new (o := .lst [iv 0]) S nD) nT
      replace hl := keep_new (u := .tup [.ref D, .int 0]) (keep_new (u := .lst [iv 0]) hl nD) nT
      replace hf := keep_new (u := .tup [.ref D, .int 0]) (keep_new (u := .lst [iv 0]) hf nD) nT
      revert S hl hf hD
      generalize upd (upd H3 D (.lst [iv 0])) T (.tup [.ref D, .int 0]) = H4
      intro hD S hl hf
      -- the inner while
      let W2 : Nat → L2.St → Hp → Prop := fun m σ H1 => ∃ (part : List Nat) (k : Nat) (x6 x7 x8 x9 x10 x11 : Option V), σ = [some (.ref pp), some (.ref tr), some (.ref l), some (.ref fo), some (.ref D), some (iv k), x6, x7, x8, x9, x10, x11] ∧ m + k = n ∧ Bf n rs part k ∧ Same H H1 ∧
        H1 l = some (.lst ((List.range n).map iv)) ∧ H1 fo = some (.lst []) ∧ H1 D = some (.lst (part.map iv))
      refine ⟨W2, ⟨n, [0], 0, x6, x7, x8, x9, x10, x11, rfl, rfl, ⟨by simp, fun v m => by rw [List.mem_singleton.mp m]; omega, by simp, Nat.zero_le _, fun i u h => absurd h (Nat.not_lt_zero _)⟩, S, hl, hf, hD⟩, fun m σ H5 hW => ?_⟩
      clear hD hl hf S nD nT
      obtain ⟨part, k, x6, x7, x8, x9, x10, x11, rfl, em, bf, S, hl, hf, hD⟩ := hW
      have plen := nodup_len n part bf.nd bf.lt
      refine ⟨_, rfl, _, rfl, D, _, rfl, .inl (.of hD), (k : Int), _, rfl, rfl, _, rfl, ite2 (fun e => ?_) (fun e => ?_)⟩
      · -- a turn
        have hk : k < part.length := by
          have := of_decide_eq_true e
          rw [List.length_map] at this
          omega
        obtain ⟨u, hu⟩ := get_of hk
        have hun := bf.lt u (get_mem hu)
        refine ⟨W2 (m - 1), fun σ' H' h => ⟨m - 1, by omega, h⟩, ?_⟩
        obtain ⟨ts, ht1, ht2, ht3⟩ := hR
        refine ⟨_, rfl, tr, rfl, ⟨_, sq_t S ht1⟩, for_tup (K := K) (a := tr) (xs := ts.map V.ref) (fun i σ H1 => ∃ (x6 x7 x8 x9 x10 x11 : Option V), σ = [some (.ref pp), some (.ref tr), some (.ref l), some (.ref fo), some (.ref D), some (iv k), x6, x7, x8, x9, x10, x11] ∧ Same H H1 ∧
          H1 l = some (.lst ((List.range n).map iv)) ∧ H1 fo = some (.lst []) ∧ H1 D = some (.lst (((rs.take i).foldl (stepR u) part).map iv)))
          ⟨x6, x7, x8, x9, x10, x11, rfl, S, hl, hf, hD⟩ (fun i σ H1 _ hP => ?_) (fun i x σ H1 hx hP => ?_) (fun σ H1 hP => ?_)⟩
        · obtain ⟨_, _, _, _, _, _, _, S', _⟩ := hP
          exact sq_t S' ht1
        · obtain ⟨t, ht, rfl⟩ := mget hx
          have hi : i < rs.length := by have := get_lt ht; omega
          obtain ⟨r, hr⟩ := get_of hi
          have hrt := ht3 i t r ht hr
          have R := hrs r (get_mem hr)
          obtain ⟨x6, x7, x8, x9, x10, x11, rfl, S, hl, hf, hD⟩ := hP
          have pt := (Pt.fold (u := u) (rs := rs) (p := part) ⟨⟨[], by simp⟩, bf.nd, bf.lt⟩ hrs i (by omega)).1
          rw [take_snoc hr, List.foldl_append]
          generalize (rs.take i).foldl (stepR u) part = p0 at hD pt
          refine ⟨t, _, rfl, sq_t S hrt, rfl, _, _, rfl, _, _, rfl, _, _, rfl, rfl, ?_⟩
          refine ⟨_, rfl, _, rfl, line_big (by simp), fun T1 nT1 => ⟨_, rfl, _, rfl, line_big (by simp), fun T2 nT2 => ⟨line_big (by simp), fun T3 nT3 => ?_⟩⟩⟩
          have g1 := keep_new (u := .tup [.ref T1, .ref T2]) (keep_new (u := .tup [iv r.2.1, iv r.1]) (upd_same (H := H1) (a := T1) (o := .tup [iv r.1, iv r.2.1])) nT2) nT3
          have g2 := keep_new (u := .tup [.ref T1, .ref T2]) (upd_same (H := upd H1 T1 (.tup [iv r.1, iv r.2.1])) (a := T2) (o := .tup [iv r.2.1, iv r.1])) nT3
          have g3 := upd_same (H := upd (upd H1 T1 (.tup [iv r.1, iv r.2.1])) T2 (.tup [iv r.2.1, iv r.1])) (a := T3) (o := .tup [.ref T1, .ref T2])
          have kp : ∀ {a : Addr} {o : HO}, H1 a = some o → upd (upd (upd H1 T1 (.tup [iv r.1, iv r.2.1])) T2 (.tup [iv r.2.1, iv r.1])) T3 (.tup [.ref T1, .ref T2]) a = some o := fun e => keep_new (keep_new (keep_new e nT1) nT2) nT3
          replace S : Same H _ := fun b o e => kp (S b o e)
          replace hl := kp hl
          replace hf := kp hf
          replace hD := kp hD
          clear kp
          revert g1 g2 g3 S hl hf hD
          generalize upd (upd (upd H1 T1 (.tup [iv r.1, iv r.2.1])) T2 (.tup [iv r.2.1, iv r.1])) T3 (.tup [.ref T1, .ref T2]) = H6
          intro g1 g2 g3 S hl hf hD
          let pj : Nat → List Nat := fun j => match j with
            | 0 => p0
            | 1 => addIf u r.1 r.2.1 p0
            | _ => stepR u p0 r
          refine ⟨T3, rfl, ⟨_, .of g3⟩, for_tup (K := K) (a := T3) (xs := [.ref T1, .ref T2]) (fun j σ H1 => ∃ (x9 x10 : Option V), σ = [some (.ref pp), some (.ref tr), some (.ref l), some (.ref fo), some (.ref D), some (iv k), some (iv r.1), some (iv r.2.1), some (iv r.2.2), x9, x10, x11] ∧ Same H H1 ∧
            H1 T1 = some (.tup [iv r.1, iv r.2.1]) ∧ H1 T2 = some (.tup [iv r.2.1, iv r.1]) ∧ H1 T3 = some (.tup [.ref T1, .ref T2]) ∧
            H1 l = some (.lst ((List.range n).map iv)) ∧ H1 fo = some (.lst []) ∧ H1 D = some (.lst ((pj j).map iv)))
            ⟨x9, x10, rfl, S, g1, g2, g3, hl, hf, hD⟩ (fun j σ H1 _ hP => ?_) (fun j x σ H1 hx hP => ?_) (fun σ H1 hP => ?_)⟩
          · obtain ⟨_, _, _, _, _, _, g3, _⟩ := hP
            exact .of g3
          · clear S g1 g2 g3 hl hf hD
            obtain ⟨x9, x10, rfl, S, g1, g2, g3, hl, hf, hD⟩ := hP
            obtain ⟨T, one, other, rfl, hT, ej, ho, pk, pd⟩ : ∃ (T : Addr) (one other : Nat), x = .ref T ∧ H1 T = some (.tup [iv one, iv other]) ∧ pj (j + 1) = addIf u one other (pj j) ∧ other < n ∧ (pj j)[k]? = some u ∧ (pj j).length ≤ 1000 := by
              have pre : ∀ {q : List Nat}, Pt n part q → q[k]? = some u ∧ q.length ≤ 1000 := fun {q} z => by
                obtain ⟨e, he⟩ := z.pre
                refine ⟨by rw [he, List.getElem?_append_left hk]; exact hu, ?_⟩
                have := nodup_len n q z.nd z.lt
                omega
              match j, hx with
              | 0, hx => exact ⟨T1, r.1, r.2.1, (Option.some.inj hx).symm, g1, rfl, R.2, (pre pt).1, (pre pt).2⟩
              | 1, hx => exact ⟨T2, r.2.1, r.1, (Option.some.inj hx).symm, g2, rfl, R.1, (pre (pt.add (u := u) (one := r.1) R.2).1).1, (pre (pt.add (u := u) (one := r.1) R.2).1).2⟩
            rw [ej]
            generalize pj j = q at hD pk pd
            refine ⟨T, _, rfl, .of hT, rfl, _, _, rfl, _, _, rfl, rfl, ?_⟩
            have done : ∀ (H7 : Hp), H7 = H1 → addIf u one other q = q → ∃ (x9 x10 : Option V), [some (.ref pp), some (.ref tr), some (.ref l), some (.ref fo), some (.ref D), some (iv k), some (iv r.1), some (iv r.2.1), some (iv r.2.2), some (iv one), some (iv other), x11] = [some (.ref pp), some (.ref tr), some (.ref l), some (.ref fo), some (.ref D), some (iv k), some (iv r.1), some (iv r.2.1), some (iv r.2.2), x9, x10, x11] ∧ Same H H7 ∧
                H7 T1 = some (.tup [iv r.1, iv r.2.1]) ∧ H7 T2 = some (.tup [iv r.2.1, iv r.1]) ∧ H7 T3 = some (.tup [.ref T1, .ref T2]) ∧
                H7 l = some (.lst ((List.range n).map iv)) ∧ H7 fo = some (.lst []) ∧ H7 D = some (.lst ((addIf u one other q).map iv)) := fun H7 e1 e2 => by
              subst e1
              exact ⟨_, _, rfl, S, g1, g2, g3, hl, hf, by rw [e2]; exact hD⟩
            refine ⟨_, rfl, _, rfl, _, rfl, D, _, k, iv u, rfl, rfl, .of hD, atI_nat (gmap pk), rfl, _, rfl, ite2 (fun e => ?_) (fun e => ?_)⟩
            · have e1 : one = u := iv_inj (of_decide_eq_true e)
              refine ⟨_, rfl, _, rfl, l, _, rfl, .inl (.of hl), rfl, flat_iv _, true, congrArg V.bl (show inV _ _ = true by rw [inV_iv]; simp [ho]), iteT ?_⟩
              by_cases c : other ∈ q
              · refine ⟨_, rfl, _, rfl, D, _, rfl, .inl (.of hD), rfl, flat_iv _, false, congrArg V.bl (show (!inV _ _) = false by rw [inV_iv]; simp [c]), iteF ?_⟩
                exact done _ rfl (by unfold addIf; rw [if_neg (fun z => z.2 c)])
              · refine ⟨_, rfl, _, rfl, D, _, rfl, .inl (.of hD), rfl, flat_iv _, true, congrArg V.bl (show (!inV _ _) = true by rw [inV_iv]; simp [c]), iteT ?_⟩
                refine ⟨_, rfl, .inl ⟨rfl, _, .of hD⟩, _, rfl, D, _, _, rfl, rfl, hD, small1000 (by rw [List.length_map]; exact pd), ?_⟩
                have ea : addIf u one other q = q ++ [other] := by unfold addIf; rw [if_pos ⟨e1, c⟩]
                have nT1 : T1 ≠ D := ne_of g1 hD (fun z => nomatch z)
                have nT2 : T2 ≠ D := ne_of g2 hD (fun z => nomatch z)
                have nT3 : T3 ≠ D := ne_of g3 hD (fun z => nomatch z)
                refine ⟨_, _, rfl, same_upd S hD0, ?_, ?_, ?_, ?_, ?_, ?_⟩
                · rw [upd_ne nT1]; exact g1
                · rw [upd_ne nT2]; exact g2
                · rw [upd_ne nT3]; exact g3
                · rw [upd_ne nlD]; exact hl
                · rw [upd_ne nfD]; exact hf
                · rw [upd_same, ea, List.map_append]; rfl
            · have e1 : one ≠ u := fun z => e (by rw [z]; exact decide_eq_true rfl)
              exact iteF (done _ rfl (by unfold addIf; rw [if_neg (fun z => e1 z.1)]))
          · obtain ⟨x9, x10, rfl, S, g1, g2, g3, hl, hf, hD⟩ := hP
            exact ⟨_, _, _, _, _, _, rfl, S, hl, hf, hD⟩
        · obtain ⟨x6, x7, x8, x9, x10, x11, rfl, S, hl, hf, hD⟩ := hP
          rw [List.length_map, ht2, List.take_length] at hD
          refine ⟨_, rfl, _, _, rfl, rfl, ?_⟩
          exact ⟨_, k + 1, x6, x7, x8, x9, x10, x11, rfl, by omega, bf.next hrs hu, S, hl, hf, hD⟩
      · -- the part is whole
        have hk : part.length ≤ k := by
          have : ¬ ((k : Int) < (part.map iv).length) := fun z => e (decide_eq_true z)
          rw [List.length_map] at this
          omega
        have all := bf.done hk hC
        have flen := full_len bf.nd bf.lt all
        refine ⟨_, rfl, .inl ⟨rfl, _, .of hf⟩, _, rfl, D, (part.map fun k : Nat => (k : Int)), rfl, .of (by rw [hD, map_iv]), fun ns p1 pm _ np1 => ⟨p1, _, rfl, .inl ⟨.of upd_same, fun t nt => ?_⟩⟩⟩
        have kp : ∀ {a : Addr} {o : HO}, H5 a = some o → upd (upd H5 p1 (.lst (ns.map V.int))) t (.tup (ns.map V.int)) a = some o := fun e => keep_new (keep_new e np1) nt
        have ht := upd_same (H := upd H5 p1 (.lst (ns.map V.int))) (a := t) (o := .tup (ns.map V.int))
        have ntf : t ≠ fo := (ne_of_none (keep_new hf np1) nt).symm
        replace S : Same H _ := fun b o e => kp (S b o e)
        replace hl := kp hl
        replace hf := kp hf
        replace hD := kp hD
        clear kp
        revert ht S hl hf hD
        generalize upd (upd H5 p1 (.lst (ns.map V.int))) t (.tup (ns.map V.int)) = H6
        intro ht S hl hf hD
        refine ⟨fo, _, _, rfl, rfl, hf, small1000 (by simp), ?_⟩
        have S' := same_upd (o := .lst ([] ++ [.ref t])) S hf0
        have hl' : upd H6 fo (.lst ([] ++ [.ref t])) l = some (.lst ((List.range n).map iv)) := by rw [upd_ne nlf]; exact hl
        have hD' : upd H6 fo (.lst ([] ++ [.ref t])) D = some (.lst (part.map iv)) := by rw [upd_ne nfD.symm]; exact hD
        have ht' : upd H6 fo (.lst ([] ++ [.ref t])) t = some (.tup (ns.map V.int)) := by rw [upd_ne ntf]; exact ht
        have hf' := upd_same (H := H6) (a := fo) (o := .lst ([] ++ [.ref t]))
        revert S' hl' hD' ht' hf'
        generalize upd H6 fo (.lst ([] ++ [.ref t])) = H7
        intro S' hl' hD' ht' hf'
        refine ⟨_, rfl, l, rfl, ⟨_, .of hl'⟩, fun D2 nD2 => lc_list (K := K) (a := l) (xs := (List.range n).map iv) (fun i H1 => Same H H1 ∧ H1 l = some (.lst ((List.range n).map iv)) ∧ H1 D = some (.lst (part.map iv)) ∧ H1 t = some (.tup (ns.map V.int)) ∧ H1 fo = some (.lst [.ref t]) ∧ H1 D2 = some (.lst []))
          ⟨same_new S' nD2, keep_new hl' nD2, keep_new hD' nD2, keep_new ht' nD2, keep_new hf' nD2, upd_same⟩ (fun i H1 _ hP => .of hP.2.1) (fun i x H1 hx hP => ?_) (fun H1 hP => ?_)⟩
        · obtain ⟨v, hv, rfl⟩ := mget hx
          have hm := all v (List.mem_range.mp (get_mem hv))
          exact ⟨rfl, _, rfl, _, rfl, D, _, rfl, .inl (.of hP.2.2.1), rfl, flat_iv _, false, congrArg V.bl (show (!inV _ _) = false by rw [inV_iv]; simp [hm]), iteF hP⟩
        · obtain ⟨S8, hl8, hD8, ht8, hf8, h28⟩ := hP
          have nD2f : D2 ≠ fo := fun z => by subst z; rw [hf8] at h28; cases h28
          refine ⟨D2, some (.ref D), _, _, _, _, _, _, _, rfl, S8, S'.free nD2, nD2f, .inr ⟨rfl, h28, t, ns, hf8, ht8, ?_, fun x hx => ?_⟩⟩
          · rw [pm.length_eq, List.length_map, flen]
          · obtain ⟨v, hv, rfl⟩ := List.mem_map.mp (pm.mem_iff.mp hx)
            have := bf.lt v hv
            omega
    · -- none is left
      refine ⟨_, rfl, Nat.zero_le _, fun e ne => ⟨.list [], .list [], .lst (.of (keep_new hl ne)) .nil, .lst (.of upd_same) .nil, shaped_nil, shaped_nil, false, congrArg V.bl (by simp [PyData.eqv, PyData.eqvAll]), iteF ?_⟩⟩
      refine ⟨_, rfl, fo, _, rfl, .of (keep_new hf ne), by simp, fun x hx => ?_, fun ys p pm _ np => ?_⟩
      · rw [List.mem_singleton.mp hx]
        exact ⟨ns, ⟨t, rfl, .of (keep_new ht ne)⟩, hns, hbd⟩
      · have S2 := same_new (o := .lst []) S ne
        rw [List.perm_singleton.mp pm]
        exact Qk _ p _ (same_new S2 np) (S2.free np) upd_same
end
end Nh
namespace Nh
open PySem PySem.Spec PyProof.Rows L2
/-! ### lists of pairs -/
def pd (q : Nat × Nat) : PyData := .tuple [.int (q.1 : Int), .int (q.2 : Int)]
def PairsAt (H : Hp) (us : List Addr) (qs : List (Nat × Nat)) : Prop := us.length = qs.length ∧ ∀ (i : Nat) (u : Addr) (q : Nat × Nat), us[i]? = some u → qs[i]? = some q → H u = some (.tup [iv q.1, iv q.2])
theorem PairsAt.same {H H' : Hp} {us : List Addr} {qs : List (Nat × Nat)} (S : Same H H') (h : PairsAt H us qs) : PairsAt H' us qs := ⟨h.1, fun i u q a b => S _ _ (h.2 i u q a b)⟩
theorem PairsAt.nil {H : Hp} : PairsAt H [] [] := ⟨rfl, fun i u q h => by simp at h⟩
theorem PairsAt.snoc {H : Hp} {us : List Addr} {qs : List (Nat × Nat)} {u : Addr} {q : Nat × Nat} (h : PairsAt H us qs) (hu : H u = some (.tup [iv q.1, iv q.2])) : PairsAt H (us ++ [u]) (qs ++ [q]) := by
  refine ⟨by rw [List.length_append, List.length_append, h.1]; rfl, fun i v p a b => ?_⟩
  by_cases hi : i < us.length
  · rw [List.getElem?_append_left hi] at a
    rw [List.getElem?_append_left (by rw [← h.1]; exact hi)] at b
    exact h.2 i v p a b
  · rw [List.getElem?_append_right (by omega)] at a
    rw [List.getElem?_append_right (by rw [← h.1]; omega), ← h.1] at b
    generalize i - us.length = k at a b
    cases k with
    | zero =>
      have e1 : u = v := Option.some.inj a
      have e2 : q = p := Option.some.inj b
      subst e1 e2
      exact hu
    | succ k => simp at a
theorem PairsAt.tail {H : Hp} {u : Addr} {us : List Addr} {q : Nat × Nat} {qs : List (Nat × Nat)} (h : PairsAt H (u :: us) (q :: qs)) : PairsAt H us qs :=
  ⟨by have := h.1; simpa using this, fun i v p a b => h.2 (i + 1) v p (by simpa using a) (by simpa using b)⟩
theorem PairsAt.dp {K : PySem.W.Frag} {H : Hp} : ∀ {us : List Addr} {qs : List (Nat × Nat)}, PairsAt H us qs → DpAll K H (us.map V.ref) (qs.map pd)
  | [], [], _ => .nil
  | [], _ :: _, h => by have := h.1; simp at this
  | _ :: _, [], h => by have := h.1; simp at this
  | u :: us, q :: qs, h => .cons (.tup (.of (h.2 0 u q rfl rfl)) (.cons (.int _) (.cons (.int _) .nil))) (PairsAt.dp h.tail)
theorem canLay_pairs : ∀ qs : List (Nat × Nat), PyData.canLayAll0 (qs.map pd) = true
  | [] => by simp [PyData.canLayAll0]
  | q :: qs => by simp [PyData.canLayAll0, PyData.canLay0, pd, canLay_pairs qs]
theorem depth_pairs : ∀ qs : List (Nat × Nat), PyData.depthAll (qs.map pd) ≤ 1
  | [] => by simp [PyData.depthAll]
  | q :: qs => by
    have := depth_pairs qs
    simp [PyData.depthAll, PyData.depth, pd]
    omega
theorem shaped_pairs (qs : List (Nat × Nat)) : SeqAt.shaped (.list (qs.map pd)) = true := by
  have := depth_pairs qs
  simp [SeqAt.shaped, PyData.canLay0, PyData.depth, canLay_pairs]
  omega
theorem shaped_pd (q : Nat × Nat) : SeqAt.shaped (pd q) = true := by
  simp [SeqAt.shaped, PyData.canLay0, PyData.canLayAll0, PyData.depth, PyData.depthAll, pd]
theorem any_pairs (q : Nat × Nat) : ∀ qs : List (Nat × Nat), ((qs.map pd).any fun z => PyData.eqv z (pd q)) = decide (q ∈ qs)
  | [] => rfl
  | p :: qs => by
    rw [List.map_cons, List.any_cons, any_pairs q qs]
    obtain ⟨a, b⟩ := p
    obtain ⟨c, d⟩ := q
    have e : PyData.eqv (pd (a, b)) (pd (c, d)) = decide ((c, d) = (a, b)) := by
      simp [pd, PyData.eqv, PyData.eqvAll]
      have q : ∀ x y : Nat, ((x : Int) == (y : Int)) = decide (y = x) := fun x y => by
        by_cases h : y = x
        · subst h; simp
        · rw [decide_eq_false h]; simp; omega
      rw [q, q]
    rw [e]
    simp [List.mem_cons]
section
variable {P : Program} {w : World} {K : PySem.W.Frag} {mg : Str → Option Value} {base : Heap}
theorem scNeedW : FnScope ["web", "pairs", "index", "one"] ["web"] (defScope sNeedW) := ⟨rfl, rfl, rfl, by decide +kernel, rfl, by decide +kernel, by decide +kernel⟩
def spNeedW : Sp := fun vs H Q _ => ∃ (v : Addr) (n : Nat) (ws : List Int) (rs : List Road), vs = [.ref v] ∧ WebAt H v ws rs ∧ Good n ws rs ∧ ∀ H', Same H H' → Q .non H'
theorem ok_needw {f fW fR fP fI : Addr} {fd fdW fdR fdP fdI : FuncData} {t1 t2 t3 t4 : Tok} (F : Fun K "need_web" "need_web" sNeedW f fd)
    (FI : Fun K "is_in" "is_in" sIsIn fI fdI) (bI : Binds K fdI ["value", "least", "most"] []) (gI : mg "is_in" = some (.ref fI))
    (FW : Fun K "is_weights" "is_weights" sIsW fW fdW) (bW : Binds K fdW ["value"] []) (gW : mg "is_weights" = some (.ref fW))
    (FR : Fun K "is_road" "is_road" sIsRoad fR fdR) (bR : Binds K fdR ["value", "count"] []) (gR : mg "is_road" = some (.ref fR))
    (FP : Fun K "parts_in" "parts_in" sParts fP fdP) (bP : Binds K fdP ["points", "roads"] []) (gP : mg "parts_in" = some (.ref fP))
    (mW : mg "MOST_WEIGHT" = some (.int 100 t1)) (mP : mg "MOST_POINTS" = some (.int 8 t2)) (mL : mg "MOST_LENGTH" = some (.int 100 t3)) (mR : mg "MOST_ROADS" = some (.int 14 t4)) (B : Free mg) :
    FnOk P w K mg base CX0 3 f fd ["web"] spNeedW := by
  have GW : FnOk P w K mg base CX0 2 fW fdW ["value"] spIsW := ok_isw FW FI bI gI mW mP B
  have GR : FnOk P w K mg base CX0 2 fR fdR ["value", "count"] spIsRoad := ok_isroad FR FI bI gI mL B
  have GP : FnOk P w K mg base CX0 2 fP fdP ["points", "roads"] spParts := ok_parts FP B
  refine F.ok scNeedW (fun vs H Q E h => ?_) (fun cdv A outer s H vs Q E hr h => ?_)
  · obtain ⟨v, n, ws, rs, rfl, _⟩ := h
    rfl
  · obtain ⟨v, n, ws, rs, rfl, ⟨tw, tr, hv, htw, ts, htr, hts, hrt⟩, G, Qk⟩ := h
    have hu65 : (A.deeper (envOfC "need_web" (defScope sNeedW) s.heap.objs.size f cdv)).units + 65 < cLine := by
      have := hr.un
      omega
    refine ⟨_, pss_cons (ps_if (PW.pt (pw_or (pt_not (pt_val (pe_callB call_isi (by rfl) B.isinstance boot_isinstance (pa_cons (pv 0) (pa_cons (pe_bltn (v := .ty "tuple") (by rfl) B.tuple bt_tuple rfl) pa_nil)))))
        (pw_or (pt_cmpR op_ne (pe_callB call_len (by rfl) B.len PySem.boot_len (pa_cons (pv 0) pa_nil)) pe_int (nomark _))
        (pw_or1 (pt_not (pt_val (pe_call GW hr (by rfl) gW FW.kp bW .nil pass0 (pa_cons (pe_ix ix_tup (pv 0) pe_int (fun _ _ => rfl)) pa_nil)))))))) (pss_one ps_never) pss_nil)
      (pss_cons (ps_if (PW.pt (pw_or (pt_not (pt_val (pe_callB call_isi (by rfl) B.isinstance boot_isinstance (pa_cons (pe_ix ix_tup (pv 0) pe_int (fun _ _ => rfl)) (pa_cons (pe_bltn (v := .ty "tuple") (by rfl) B.tuple bt_tuple rfl) pa_nil)))))
        (pw_or1 (pt_cmpR op_gt (pe_callB call_len (by rfl) B.len PySem.boot_len (pa_cons (pe_ix ix_tup (pv 0) pe_int (fun _ _ => rfl)) pa_nil)) (pe_glob (v := .int 14) (by rfl) mR ⟨_, rfl⟩) (nomark _))))) (pss_one ps_never) pss_nil)
      (pss_cons (ps_set (i := 1) scNeedW.nd rfl (.inl rfl) (pe_lst pa_nil))
      (pss_cons (ps_for PassesOwn.never rfl (pi_enumT (by rfl) B.enumerate (pa_cons (pe_ix ix_tup (pv 0) pe_int (fun _ _ => rfl)) pa_nil)) (pg_tup (by rfl) (pgs_cons (pg_name (i := 2) scNeedW.nd rfl (.inl rfl)) (pgs_cons (pg_name (i := 3) scNeedW.nd rfl (.inl rfl)) pgs_nil)))
        (pss_cons (ps_if (PW.pt (pw_or (pt_not (pt_val (pe_call GR hr (by rfl) gR FR.kp bR .nil pass0 (pa_cons (pv 3) (pa_cons (pe_callB call_len (by rfl) B.len PySem.boot_len (pa_cons (pe_ix ix_tup (pv 0) pe_int (fun _ _ => rfl)) pa_nil)) pa_nil)))))
            (pw_or1 (pt_cmpR (op_inD hu65) (pe_slice sl_tup (pv 3) po_none (po_some pe_int)) (pv 1) rfl)))) (pss_one ps_never) pss_nil)
        (pss_one (ps_expr (pe_bm PySem.F.plainAttrs_list PySem.F.slot_list_append PySem.F.type_list_append mt_append (pv 1) (pa_cons (pe_slice sl_tup (pv 3) po_none (po_some pe_int)) pa_nil))))))
      (pss_one (ps_if (pt_cmpR op_gt (pe_callB call_len (by rfl) B.len PySem.boot_len (pa_cons (pe_call GP hr (by rfl) gP FP.kp bP .nil pass0 (pa_cons (pe_listRg (by rfl) (by rfl) B.list (prg_1 (by rfl) B.range (pe_callB call_len (by rfl) B.len PySem.boot_len (pa_cons (pe_ix ix_tup (pv 0) pe_int (fun _ _ => rfl)) pa_nil)))) (pa_cons (pe_ix ix_tup (pv 0) pe_int (fun _ _ => rfl)) pa_nil))) pa_nil)) pe_int (nomark _)) (pss_one ps_never) pss_nil))))), ?_⟩
    refine ⟨_, rfl, _, _, _, _, true, rfl, .ty _, .base (.tup hv), kit_ty (by decide +kernel), true, rfl, iteF ?_⟩
    refine ⟨_, rfl, _, 2, rfl, .inr ⟨_, .of hv, rfl⟩, rfl, false, rfl, iteF ?_⟩
    refine ⟨_, rfl, v, _, 0, _, rfl, rfl, .of hv, atI_nat (j := 0) rfl, tw, ws, rfl, htw, by rw [G.wl]; exact G.n2, by rw [G.wl]; exact G.n8, G.w, G.wsum, fun H1 S1 => ⟨true, rfl, iteF ?_⟩⟩
    refine ⟨_, rfl, v, _, 1, _, rfl, rfl, sq_t S1 hv, atI_nat (j := 1) rfl, _, _, _, _, true, rfl, .ty _, .base (.tup (S1 _ _ htr)), kit_ty (by decide +kernel), true, rfl, iteF ?_⟩
    have hrl := G.rl
    refine ⟨_, rfl, v, _, 1, _, rfl, rfl, sq_t S1 hv, atI_nat (j := 1) rfl, _, ts.length, rfl, .inr ⟨_, sq_t S1 htr, by rw [List.length_map]⟩, ts.length, 14, rfl, rfl, false, congrArg V.bl (decide_eq_false (by omega)), iteF ?_⟩
    -- pairs = []
    refine ⟨Nat.zero_le _, fun D nD => ?_⟩
    have hD0 := S1.free nD
    have S2 := same_new (o := .lst []) S1 nD
    refine ⟨_, rfl, v, _, 1, _, rfl, rfl, sq_t S2 hv, atI_nat (j := 1) rfl, tr, ts.map V.ref, rfl, sq_t S2 htr, for_enumT (K := K) (a := tr) (xs := ts.map V.ref) (fun i σ H1 => ∃ (x2 x3 : Option V) (us : List Addr), σ = [some (.ref v), some (.ref D), x2, x3] ∧ Same H H1 ∧ H1 D = some (.lst (us.map V.ref)) ∧ PairsAt H1 us ((rs.take i).map fun r => (r.1, r.2.1)))
      ⟨none, none, [], rfl, S2, upd_same, .nil⟩ (fun i σ H1 _ hP => ?_) (fun i x σ H1 T hx nT hP => ?_) (fun σ H1 hP => ?_)⟩
    · obtain ⟨_, _, _, _, S, _⟩ := hP
      exact sq_t S htr
    · obtain ⟨t, ht, rfl⟩ := mget hx
      obtain ⟨x2, x3, us, rfl, S, hD, hU⟩ := hP
      have hi : i < rs.length := by have := get_lt ht; omega
      obtain ⟨r, hr'⟩ := get_of hi
      have hrt' := hrt i t r ht hr'
      have R := G.rd r (get_mem hr')
      have hT := upd_same (H := H1) (a := T) (o := .tup [.int (i : Nat), .ref t])
      replace hU := hU.same (same_new (o := .tup [.int (i : Nat), .ref t]) (.refl H1) nT)
      replace S := same_new (o := .tup [.int (i : Nat), .ref t]) S nT
      replace hD := keep_new (u := .tup [.int (i : Nat), .ref t]) hD nT
      revert hT hU S hD
      generalize upd H1 T (.tup [.int (i : Nat), .ref t]) = H3
      intro hT hU S hD
      refine ⟨T, _, rfl, .of hT, rfl, _, _, rfl, _, _, rfl, rfl, ?_⟩
      refine ⟨_, rfl, _, rfl, v, _, 0, _, rfl, rfl, sq_t S hv, atI_nat (j := 0) rfl, _, ws.length, rfl, .inr ⟨_, sq_t S htw, by rw [List.length_map]⟩, t, r.1, r.2.1, r.2.2, ws.length, rfl, S _ _ hrt', by omega, by omega, by rw [G.wl]; omega, by omega, by omega, true, rfl, iteF ?_⟩
      have nin : (r.1, r.2.1) ∉ (rs.take i).map fun r => (r.1, r.2.1) := by
        intro m
        have nd := G.nd
        have e : (rs.map fun r => (r.1, r.2.1)) = (rs.take i).map (fun r => (r.1, r.2.1)) ++ (rs.drop i).map (fun r => (r.1, r.2.1)) := by rw [← List.map_append, List.take_append_drop]
        rw [e, List.nodup_append] at nd
        refine nd.2.2 _ m _ (List.mem_map.mpr ⟨r, ?_, rfl⟩) rfl
        rw [List.drop_eq_getElem_cons hi]
        have e2 : rs[i] = r := by rw [List.getElem?_eq_getElem hi] at hr'; exact Option.some.inj hr'
        rw [e2]
        exact List.mem_cons_self
      refine ⟨_, rfl, 2, rfl, t, _, rfl, sq_t S hrt', (show ¬ (0 = 0 ∧ 2 = 3) by decide), fun p np => ?_⟩
      refine ⟨_, rfl, pd (r.1, r.2.1), ((rs.take i).map fun r => (r.1, r.2.1)).map pd, .tup (.of upd_same) (.cons (.int _) (.cons (.int _) .nil)), .lst (.of (keep_new hD np)) ((hU.same (same_new (.refl H3) np)).dp), shaped_pd _, shaped_pairs _, false, congrArg V.bl ((any_pairs _ _).trans (decide_eq_false nin)), iteF ?_⟩
      replace hU := hU.same (same_new (o := .tup (cutV [iv r.1, iv r.2.1, iv r.2.2] none (some 2))) (.refl H3) np)
      replace S := same_new (o := .tup (cutV [iv r.1, iv r.2.1, iv r.2.2] none (some 2))) S np
      replace hD := keep_new (u := .tup (cutV [iv r.1, iv r.2.1, iv r.2.2] none (some 2))) hD np
      revert hU S hD
      generalize upd H3 p (.tup (cutV [iv r.1, iv r.2.1, iv r.2.2] none (some 2))) = H4
      intro hU S hD
      refine ⟨_, rfl, .inl ⟨rfl, _, .of hD⟩, _, rfl, 2, rfl, t, _, rfl, sq_t S hrt', (show ¬ (0 = 0 ∧ 2 = 3) by decide), fun u nu => ⟨D, _, _, rfl, rfl, keep_new hD nu, small1000 ?_, ?_⟩⟩
      · rw [List.length_map, hU.1, List.length_map, List.length_take]
        omega
      · have hu := upd_same (H := H4) (a := u) (o := .tup [iv r.1, iv r.2.1])
        have nuD : u ≠ D := (ne_of_none hD nu).symm
        have hU' := hU.same (same_new (o := .tup [iv r.1, iv r.2.1]) (.refl H4) nu)
        have S' := same_new (o := .tup [iv r.1, iv r.2.1]) S nu
        have hD' := keep_new (u := .tup [iv r.1, iv r.2.1]) hD nu
        refine ⟨_, _, us ++ [u], rfl, same_upd S' hD0, by rw [upd_same, List.map_append]; rfl, ?_⟩
        rw [take_snoc hr', List.map_append]
        refine PairsAt.snoc ⟨hU'.1, fun j v q a b => ?_⟩ (by rw [upd_ne nuD]; exact hu)
        have := hU'.2 j v q a b
        have ne : v ≠ D := ne_of this hD' (fun z => nomatch z)
        show upd _ D _ v = _
        rw [upd_ne ne]
        exact this
    · obtain ⟨x2, x3, us, rfl, S, hD, hU⟩ := hP
      refine ⟨_, rfl, v, _, 0, _, rfl, rfl, sq_t S hv, atI_nat (j := 0) rfl, _, ws.length, rfl, .inr ⟨_, sq_t S htw, by rw [List.length_map]⟩, ws.length, rfl, RgOk.of_le (by omega) (by have := G.wl; have := G.n8; omega) (by omega) (by omega), fun q nq => ?_⟩
      have S3 := same_new (o := .lst (rgV 0 (ws.length : Int))) S nq
      have hq : upd H1 q (.lst (rgV 0 (ws.length : Int))) q = some (.lst ((List.range n).map iv)) := by
        rw [upd_same]
        unfold rgV
        rw [show ((ws.length : Int) - 0).toNat = n by have := G.wl; omega]
        congr 2
        refine List.map_congr_left fun i _ => ?_
        show V.int (0 + (i : Int)) = V.int (i : Int)
        rw [Int.zero_add]
      refine ⟨_, rfl, v, _, 1, _, rfl, rfl, sq_t S3 hv, atI_nat (j := 1) rfl, q, tr, n, rs, rfl, hq, ⟨ts, S3 _ _ htr, hts, fun i t r a b => S3 _ _ (hrt i t r a b)⟩, G.n2, G.n8, fun r m => by have := G.rd r m; omega, G.conn, fun H5 p x S5 _ hp => ?_⟩
      exact ⟨_, 1, rfl, .inl ⟨_, .of hp, rfl⟩, 1, 1, rfl, rfl, false, rfl, iteF (Qk H5 (S3.trans S5))⟩
end
end Nh
namespace Nh
open PySem PySem.Spec PyProof.Rows L2
/-! ### tables on the heap -/
def rowV (n : Nat) (g : Tab) (i : Nat) : List V := (List.range n).map fun j => iv (g i j)
theorem rowV_len {n : Nat} {g : Tab} {i : Nat} : (rowV n g i).length = n := by simp [rowV]
theorem rowV_at {n : Nat} {g : Tab} {i j : Nat} (h : j < n) : atI (rowV n g i) (j : Int) = some (iv (g i j)) := atI_nat (gmap (List.getElem?_range h))
theorem ixN_nat {n j : Nat} (h : j < n) : ixN n (j : Int) = some j := by
  unfold ixN
  rw [if_pos (by omega), if_pos (by omega)]
  simp
theorem rowV_set {n : Nat} {g : Tab} {i j v : Nat} : (rowV n g i).set j (iv v) = rowV n (set2 g i j v) i := by
  apply List.ext_getElem?
  intro k
  unfold rowV
  rw [List.getElem?_set]
  by_cases h : k < n
  · rw [gmap (f := fun y => iv (set2 g i j v i y)) (List.getElem?_range h)]
    by_cases e : j = k
    · subst e
      rw [if_pos rfl, if_pos (by simpa using h), set2_same]
    · rw [if_neg e, gmap (f := fun y => iv (g i y)) (List.getElem?_range h), set2_ne (by omega)]
  · have hl : (List.range n)[k]? = none := List.getElem?_eq_none (by simpa using h)
    have h2 : ∀ f : Nat → V, ((List.range n).map f)[k]? = none := fun f => List.getElem?_eq_none (by simpa using h)
    rw [h2, h2]
    by_cases e : j = k
    · rw [if_pos e, if_neg (by simp; omega)]
    · rw [if_neg e]
theorem rowV_other {n : Nat} {g : Tab} {i j v m : Nat} (h : m ≠ i) : rowV n (set2 g i j v) m = rowV n g m := by
  unfold rowV
  refine List.map_congr_left fun y _ => ?_
  rw [set2_ne (fun z => h z.1)]
structure TabAt (H : Hp) (p : Addr) (ps : List Addr) (n : Nat) (g : Tab) : Prop where
  hd : H p = some (.lst (ps.map V.ref))
  len : ps.length = n
  nd : ps.Nodup
  np : p ∉ ps
  row : ∀ (i : Nat) (a : Addr), ps[i]? = some a → H a = some (.lst (rowV n g i))
theorem TabAt.same {H H' : Hp} {p : Addr} {ps : List Addr} {n : Nat} {g : Tab} (h : TabAt H p ps n g) (S : Same H H') : TabAt H' p ps n g := ⟨S _ _ h.hd, h.len, h.nd, h.np, fun i a e => S _ _ (h.row i a e)⟩
theorem TabAt.get {H : Hp} {p : Addr} {ps : List Addr} {n : Nat} {g : Tab} (h : TabAt H p ps n g) {i : Nat} (hi : i < n) : ∃ a, ps[i]? = some a ∧ H a = some (.lst (rowV n g i)) ∧ atI (ps.map V.ref) (i : Int) = some (.ref a) := by
  obtain ⟨a, e⟩ := get_of (l := ps) (i := i) (by rw [h.len]; exact hi)
  exact ⟨a, e, h.row i a e, atI_nat (gmap e)⟩
theorem TabAt.put {H : Hp} {p a : Addr} {ps : List Addr} {n i j v : Nat} {g : Tab} (h : TabAt H p ps n g) (e : ps[i]? = some a) (hj : j < n) : TabAt (upd H a (.lst ((rowV n g i).set j (iv v)))) p ps n (set2 g i j v) := by
  refine ⟨?_, h.len, h.nd, h.np, fun m b eb => ?_⟩
  · rw [upd_ne (fun z => h.np (by rw [z]; exact get_mem e))]
    exact h.hd
  · by_cases q : m = i
    · subst q
      rw [e] at eb
      cases eb
      rw [upd_same, rowV_set]
    · have ne : b ≠ a := fun z => q (nd_ix h.nd (z ▸ eb) e)
      rw [upd_ne ne, h.row m b eb, rowV_other q]
theorem min_int (x y : Nat) : (if (y : Int) < (x : Int) then (y : Int) else (x : Int)) = ((min x y : Nat) : Int) := by
  split <;> omega
theorem for_rangeN {n : Nat} {g : TG} {tb : TS} {D : Ends} {σ : L2.St} {H : Hp} (Pv : Nat → L2.St → Hp → Prop) (h0 : Pv 0 σ H)
    (hs : ∀ i σ H, i < n → Pv i σ H → g (iv i) σ H fun σ2 H2 => tb { D with nx := Pv (i + 1), ct := Pv (i + 1), bk := D.nx } σ2 H2) (hd : ∀ σ H, Pv n σ H → D.nx σ H) :
    ∃ W : Nat → Nat → L2.St → Hp → Prop, (∃ m, W 0 m σ H) ∧ ∀ i m σ H, W i m σ H →
      ((Itr 0 n).stop i H ∧ D.nx σ H) ∨ ((Itr 0 n).go i H ∧ ∃ N : L2.St → Hp → Prop, (∀ σ' H', N σ' H' → ∃ m', m' < m ∧ W (i + 1) m' σ' H') ∧ ∀ x H', (Itr 0 n).yld i H x H' → g x σ H' fun σ2 H2 => tb { D with nx := N, ct := N, bk := D.nx } σ2 H2) :=
  for_range (lo := 0) (n := n) Pv h0 (fun i σ H hi p => by
    have q := hs i σ H hi p
    rw [show iv i = V.int (0 + (i : Int)) by rw [Int.zero_add]] at q
    exact q) hd
theorem lc_rangeN {n : Nat} {g : TG} {tt : TT} {te : TE} {vs : List Nat} {σ : L2.St} {H1 : Hp} {D : Addr} {Qd : Hp → Prop} (Pv : Nat → Hp → Prop) (h0 : Pv 0 (upd H1 D (.lst [])))
    (hs : ∀ i H, i < n → Pv i H → g (iv i) (wipe σ vs) H fun σ2 H2 => wipe σ2 vs = wipe σ vs ∧ tt σ2 H2 fun b H3 =>
      if b = true then te σ2 H3 fun y H4 => ∃ acc, H4 D = some (.lst acc) ∧ acc.length < sizeLine ∧ Pv (i + 1) (upd H4 D (.lst (acc ++ [y]))) else Pv (i + 1) H3) (hd : ∀ H, Pv n H → Qd H) :
    ∃ W : Nat → Nat → Hp → Prop, (∃ m, W 0 m (upd H1 D (.lst []))) ∧ ∀ i m H, W i m H →
      ((Itr 0 n).stop i H ∧ Qd H) ∨ ((Itr 0 n).go i H ∧ ∃ Nx : Hp → Prop, (∀ H', Nx H' → ∃ m', m' < m ∧ W (i + 1) m' H') ∧ ∀ x H', (Itr 0 n).yld i H x H' → g x (wipe σ vs) H' fun σ2 H2 => wipe σ2 vs = wipe σ vs ∧ tt σ2 H2 fun b H3 =>
        if b = true then te σ2 H3 fun y H4 => ∃ acc, H4 D = some (.lst acc) ∧ acc.length < sizeLine ∧ Nx (upd H4 D (.lst (acc ++ [y]))) else Nx H3) :=
  lc_range (lo := 0) (n := n) Pv h0 (fun i H hi p => by
    have q := hs i H hi p
    rw [show iv i = V.int (0 + (i : Int)) by rw [Int.zero_add]] at q
    exact q) hd
/-- the table while its rows are made: i of them -/
def Rising (H0 H : Hp) (D : Addr) (n : Nat) (g : Tab) (i : Nat) : Prop := ∃ ps : List Addr, Same H0 H ∧ H D = some (.lst (ps.map V.ref)) ∧ ps.length = i ∧ ps.Nodup ∧ D ∉ ps ∧ (∀ a ∈ ps, H0 a = none) ∧ ∀ (m : Nat) (a : Addr), ps[m]? = some a → H a = some (.lst (rowV n g m))
theorem Rising.step {H0 H : Hp} {D b : Addr} {n i : Nat} {g : Tab} {ps : List Addr} (S : Same H0 H) (hD : H D = some (.lst (ps.map V.ref))) (len : ps.length = i) (nd : ps.Nodup) (nD : D ∉ ps) (fr : ∀ a ∈ ps, H0 a = none) (rows : ∀ (m : Nat) (a : Addr), ps[m]? = some a → H a = some (.lst (rowV n g m)))
    (hb : H b = some (.lst (rowV n g i))) (nb : b ∉ ps) (nbD : b ≠ D) (hb0 : H0 b = none) (hD0 : H0 D = none) : Rising H0 (upd H D (.lst (ps.map V.ref ++ [.ref b]))) D n g (i + 1) := by
  refine ⟨ps ++ [b], same_upd S hD0, by rw [upd_same, List.map_append]; rfl, by simp [len], ?_, ?_, fun a m => ?_, fun m a e => ?_⟩
  · rw [List.nodup_append]
    exact ⟨nd, by simp, fun x hx y hy e => nb (by rw [← List.mem_singleton.mp hy, ← e]; exact hx)⟩
  · intro m
    rcases List.mem_append.mp m with m | m
    · exact nD m
    · exact nbD (List.mem_singleton.mp m).symm
  · rcases List.mem_append.mp m with m | m
    · exact fr a m
    · rw [List.mem_singleton.mp m]; exact hb0
  · by_cases h : m < ps.length
    · rw [List.getElem?_append_left h] at e
      rw [upd_ne (fun z => nD (by rw [← z]; exact get_mem e))]
      exact rows m a e
    · rw [List.getElem?_append_right (by omega)] at e
      have hm : m - ps.length = 0 := by
        generalize m - ps.length = k at e
        cases k with
        | zero => rfl
        | succ k => simp at e
      have em : m = i := by omega
      rw [hm] at e
      have : b = a := Option.some.inj e
      subst this
      rw [upd_ne nbD, em]
      exact hb
abbrev rTupOf (K : PySem.W.Frag) : List V → Hp → VK → Prop := fun xs H Q => ∃ p ys, xs = [.ref p] ∧ ((SqL K H p ys ∧ ∀ l, H l = none → Q (.ref l) (upd H l (.tup ys))) ∨ (SqT K H p ys ∧ Q (.ref p) H))
theorem sum_cast : ∀ rs : List Road, (rs.map fun r => ((r.2.2 : Nat) : Int)).sum = (((rs.map fun r => r.2.2).sum : Nat) : Int)
  | [] => rfl
  | r :: rs => by
    rw [List.map_cons, List.sum_cons, List.map_cons, List.sum_cons, sum_cast rs]
    omega
theorem Rising.tab {H0 H : Hp} {D : Addr} {n : Nat} {g : Tab} (h : Rising H0 H D n g n) : ∃ ps : List Addr, Same H0 H ∧ TabAt H D ps n g ∧ ∀ a ∈ ps, H0 a = none := by
  obtain ⟨ps, S, hD, len, nd, nD, fr, rows⟩ := h
  exact ⟨ps, S, ⟨hD, len, nd, nD, rows⟩, fr⟩
theorem rowV_succ (n : Nat) (g : Tab) (i : Nat) : rowV (n + 1) g i = rowV n g i ++ [iv (g i n)] := by
  unfold rowV
  rw [List.range_succ, List.map_append]
  rfl
section
variable {P : Program} {w : World} {K : PySem.W.Frag} {mg : Str → Option Value} {base : Heap}
abbrev nTable : List Str := ["web", "count", "a", "b", "length", "far", "i", "j", "rows", "k"]
theorem scTable : FnScope nTable ["web"] (defScope sTable) := ⟨rfl, rfl, rfl, by decide +kernel, rfl, by decide +kernel, by decide +kernel⟩
def spTable : Sp := fun vs H Q _ => ∃ (v : Addr) (n : Nat) (ws : List Int) (rs : List Road), vs = [.ref v] ∧ WebAt H v ws rs ∧ Good n ws rs ∧ ∀ (H' : Hp) (p : Addr) (ps : List Addr), Same H H' → TabAt H' p ps n (FW n rs) → Q (.ref p) H'
/-- the scope of the comprehension that a def's i-th statement stores -/
def lcS (st : Stmt) (i : Nat) : Scope := match (defBody st).getD i (.Pass ⟨0, 0, 0, 0⟩) with
  | .Assign _ (.ListComp _ _ sc _) _ => sc
  | _ => defScope st
theorem ok_table {f : Addr} {fd : FuncData} {k : Nat} (F : Fun K "table_of" "table_of" sTable f fd) (B : Free mg) : FnOk P w K mg base CX0 (k + 1) f fd ["web"] spTable := by
  refine F.ok scTable (fun vs H Q E h => ?_) (fun cdv A outer s H vs Q E hr h => ?_)
  · obtain ⟨v, n, ws, rs, rfl, _⟩ := h
    rfl
  · obtain ⟨v, n, ws, rs, rfl, ⟨tw, tr, hv, htw, ts, htr, hts, hrt⟩, G, Qk⟩ := h
    refine ⟨_, pss_cons (ps_set (i := 1) scTable.nd rfl (.inr rfl) (pe_callB call_len (by rfl) B.len PySem.boot_len (pa_cons (pe_ix ix_tup (pv 0) pe_int (fun _ _ => rfl)) pa_nil)))
      (pss_cons (ps_set (i := 5) scTable.nd rfl (.inr rfl) (pe_op op_add pe_int (pe_callB (cr_sum rfl) (by rfl) B.sum bt_sum (pa_cons
        (pe_lc (own := [("a", 2), ("b", 3), ("length", 4)]) (g := gTup K 3 (gCons (gName 2) (gCons (gName 3) (gCons (gName 4) gNil)))) (by rfl) scTable.nd (pi_tup (pe_ix ix_tup (pv 0) pe_int (fun _ _ => rfl))) (blkOk_by (own := [("a", 2), ("b", 3), ("length", 4)]) (N := nTable) (sc := defScope sTable) (by decide +kernel))
          (fun _ _ _ _ _ => pg_tup (by rfl) (pgs_cons (pg_name (i := 2) scTable.nd rfl (Or.inl rfl)) (pgs_cons (pg_name (i := 3) scTable.nd rfl (Or.inl rfl)) (pgs_cons (pg_name (i := 4) scTable.nd rfl (Or.inl rfl)) pgs_nil))))
          (fun _ _ _ _ _ => pts_nil)
          (fun _ _ _ _ _ => pv 4)) pa_nil))))
      (pss_cons (ps_setLc (i := 8) (own := [("i", 6)]) (g := gName 6) (by rfl) scTable.nd rfl rfl (sw_true rfl rfl rfl (by decide +kernel)) (pi_range1 (by rfl) B.range (pa_cons (pv 1) pa_nil)) (blkOk_by (own := [("i", 6)]) (N := nTable) (sc := defScope sTable) (by decide +kernel))
          (fun _ _ _ _ _ => pg_name (i := 6) scTable.nd rfl (Or.inr rfl))
          (fun _ _ _ _ _ => pts_nil)
          (fun _ _ _ _ _ => pe_lc (own := [("j", 7)]) (g := gName 7) (by rfl) scTable.nd (pi_range1 (by rfl) B.range (pa_cons (pv 1) pa_nil)) (blkOk_by (own := [("j", 7)]) (N := nTable) (sc := relS (lcS sTable 2) (defScope sTable)) (by decide +kernel))
            (fun _ _ _ _ _ => pg_name (i := 7) scTable.nd rfl (Or.inl rfl))
            (fun _ _ _ _ _ => pts_nil)
            (fun _ _ _ _ _ => pe_ifExp (pt_cmpR op_eq (pv 6) (pv 7) (nomark _)) pe_int (pv 5))))
      (pss_cons (ps_for PassesOwn.never rfl (pi_tup (pe_ix ix_tup (pv 0) pe_int (fun _ _ => rfl))) (pg_tup (by rfl) (pgs_cons (pg_name (i := 2) scTable.nd rfl (.inl rfl)) (pgs_cons (pg_name (i := 3) scTable.nd rfl (.inl rfl)) (pgs_cons (pg_name (i := 4) scTable.nd rfl (.inl rfl)) pgs_nil))))
        (pss_cons (ps_asg (pv 4) (pg_sub (pe_ix ix_list (pv 8) (pv 2) (fun _ _ => rfl)) (pv 3) set_list))
        (pss_one (ps_asg (pv 4) (pg_sub (pe_ix ix_list (pv 8) (pv 3) (fun _ _ => rfl)) (pv 2) set_list)))))
      (pss_cons (ps_for PassesOwn.never rfl (pi_range1 (by rfl) B.range (pa_cons (pv 1) pa_nil)) (pg_name (i := 9) scTable.nd rfl (.inl rfl))
        (pss_one (ps_for PassesOwn.never rfl (pi_range1 (by rfl) B.range (pa_cons (pv 1) pa_nil)) (pg_name (i := 6) scTable.nd rfl (.inl rfl))
          (pss_one (ps_for PassesOwn.never rfl (pi_range1 (by rfl) B.range (pa_cons (pv 1) pa_nil)) (pg_name (i := 7) scTable.nd rfl (.inl rfl))
            (pss_one (ps_asg (pe_callB (call_min2 rfl) (by rfl) B.min bt_min (pa_cons (pe_ix ix_list (pe_ix ix_list (pv 8) (pv 6) (fun _ _ => rfl)) (pv 7) (fun _ _ => rfl)) (pa_cons (pe_op op_add (pe_ix ix_list (pe_ix ix_list (pv 8) (pv 6) (fun _ _ => rfl)) (pv 9) (fun _ _ => rfl)) (pe_ix ix_list (pe_ix ix_list (pv 8) (pv 9) (fun _ _ => rfl)) (pv 7) (fun _ _ => rfl))) pa_nil)))
              (pg_sub (pe_ix ix_list (pv 8) (pv 6) (fun _ _ => rfl)) (pv 7) set_list))))))))
      (pss_one (ps_ret (pv 8))))))), ?_⟩
    have wl := G.wl
    have n8 := G.n8
    refine ⟨_, rfl, v, _, 0, _, rfl, rfl, .of hv, atI_nat (j := 0) rfl, _, n, rfl, .inr ⟨_, .of htw, by rw [List.length_map, wl]⟩, ?_⟩
    refine ⟨_, rfl, v, _, 1, _, rfl, rfl, .of hv, atI_nat (j := 1) rfl, tr, rfl, ⟨_, .of htr⟩, fun D nD => lc_tup (K := K) (a := tr) (xs := ts.map V.ref) (fun i H1 => Same H H1 ∧ H1 D = some (.lst ((rs.take i).map fun r => iv r.2.2)))
      ⟨same_new (.refl H) nD, upd_same⟩ (fun i H1 _ hP => sq_t hP.1 htr) (fun i x H1 hx hP => ?_) (fun H1 hP => ?_)⟩
    · obtain ⟨t, ht, rfl⟩ := mget hx
      have hi : i < rs.length := by have := get_lt ht; omega
      obtain ⟨r, hr'⟩ := get_of hi
      refine ⟨t, _, rfl, sq_t hP.1 (hrt i t r ht hr'), rfl, _, _, rfl, _, _, rfl, _, _, rfl, rfl, rfl, ?_⟩
      have rl := G.rl
      refine ⟨_, rfl, _, hP.2, small1000 (by rw [List.length_map, List.length_take]; omega), same_upd hP.1 nD, ?_⟩
      rw [upd_same, take_snoc hr', List.map_append]
      rfl
    obtain ⟨S, hD⟩ := hP
    rw [List.length_map, hts, List.take_length] at hD
    refine ⟨D, (rs.map fun r => ((r.2.2 : Nat) : Int)), rfl, .of (by rw [hD, List.map_map]; rfl), 1, (((rs.map fun r => r.2.2).sum : Nat) : Int), rfl, congrArg V.int (sum_cast rs), ?_⟩
    clear nD hD D
    -- rows
    refine ⟨_, rfl, n, rfl, by omega, by omega, fun D nD => lc_rangeN (n := n) (fun i H2 => Rising H H2 D n (init1 rs) i) ⟨[], same_new S nD, upd_same, rfl, by simp, by simp, fun a h => by simp at h, fun m a h => by simp at h⟩ (fun i H2 hi hP => ?_) (fun H2 hP => ?_)⟩
    · obtain ⟨ps, S2, hD, len, nd, nDp, fr, rows⟩ := hP
      refine ⟨rfl, ⟨_, rfl, n, rfl, by omega, by omega, fun D2 nD2 => lc_rangeN (n := n) (fun j H3 => Same H2 H3 ∧ H3 D2 = some (.lst (rowV j (init1 rs) i))) ⟨same_new (.refl H2) nD2, upd_same⟩ (fun j H3 hj hP => ?_) (fun H3 hP => ?_)⟩⟩
      · obtain ⟨S3, h2⟩ := hP
        refine ⟨rfl, ?_⟩
        have fin : ∀ y, y = iv (init1 rs i j) → ∃ acc, H3 D2 = some (.lst acc) ∧ acc.length < sizeLine ∧ (Same H2 (upd H3 D2 (.lst (acc ++ [y]))) ∧ upd H3 D2 (.lst (acc ++ [y])) D2 = some (.lst (rowV (j + 1) (init1 rs) i))) := fun y e => by
          subst e
          refine ⟨_, h2, small1000 (by rw [rowV_len]; omega), same_upd S3 nD2, ?_⟩
          rw [upd_same, rowV_succ]
        refine ⟨_, rfl, _, rfl, rfl, _, rfl, ite2 (fun e => ?_) (fun e => ?_)⟩
        · have e1 : i = j := iv_inj (of_decide_eq_true e)
          exact fin _ (by unfold init1; rw [if_pos e1]; rfl)
        · have e1 : i ≠ j := fun z => e (by rw [z]; exact decide_eq_true rfl)
          exact ⟨_, rfl, fin _ (by unfold init1; rw [if_neg e1]; rfl)⟩
      · obtain ⟨S3, h2⟩ := hP
        refine ⟨_, S3 _ _ hD, small1000 (by rw [List.length_map]; omega), ?_⟩
        exact Rising.step (S2.trans S3) (S3 _ _ hD) len nd nDp fr (fun m a e => S3 _ _ (rows m a e)) h2 (fun m => by
          obtain ⟨j, e⟩ := List.mem_iff_getElem?.mp m
          have := rows j D2 e
          rw [nD2] at this
          cases this) (ne_of_none hD nD2).symm (S2.free nD2) (S.free nD)
    obtain ⟨ps, S2, T, fr⟩ := hP.tab
    -- the roads
    refine ⟨_, rfl, v, _, 1, _, rfl, rfl, sq_t S2 hv, atI_nat (j := 1) rfl, tr, rfl, ⟨_, sq_t S2 htr⟩, for_tup (K := K) (a := tr) (xs := ts.map V.ref) (fun i σ H1 => ∃ (x2 x3 x4 : Option V), σ = [some (.ref v), some (iv n), x2, x3, x4, some (iv (far1 rs)), none, none, some (.ref D), none] ∧ Same H H1 ∧ TabAt H1 D ps n ((rs.take i).foldl road1 (init1 rs)))
      ⟨_, _, _, rfl, S2, T⟩ (fun i σ H1 _ hP => ?_) (fun i x σ H1 hx hP => ?_) (fun σ H1 hP => ?_)⟩
    · obtain ⟨_, _, _, _, S, _⟩ := hP
      exact sq_t S htr
    · obtain ⟨t, ht, rfl⟩ := mget hx
      have hi : i < rs.length := by have := get_lt ht; omega
      obtain ⟨r, hr'⟩ := get_of hi
      have R := G.rd r (get_mem hr')
      obtain ⟨x2, x3, x4, rfl, S, T⟩ := hP
      rw [take_snoc hr', List.foldl_append]
      generalize (rs.take i).foldl road1 (init1 rs) = g at T
      refine ⟨t, _, rfl, sq_t S (hrt i t r ht hr'), rfl, _, _, rfl, _, _, rfl, _, _, rfl, rfl, ?_⟩
      obtain ⟨a, ea, ha, aa⟩ := T.get (i := r.1) (by omega)
      refine ⟨_, rfl, _, rfl, _, rfl, D, _, r.1, _, rfl, rfl, .of T.hd, aa, _, rfl, a, _, r.2.1, r.2.1, rfl, rfl, ha, ixN_nat (by rw [rowV_len]; omega), ?_⟩
      have T1 := T.put (v := r.2.2) ea (show r.2.1 < n by omega)
      have S1 := same_upd (o := .lst ((rowV n g r.1).set r.2.1 (iv r.2.2))) S (fr a (get_mem ea))
      revert T1 S1
      generalize upd H1 a (.lst ((rowV n g r.1).set r.2.1 (iv r.2.2))) = H5
      intro T1 S1
      obtain ⟨b, eb, hb, ab⟩ := T1.get (i := r.2.1) (by omega)
      refine ⟨_, rfl, _, rfl, _, rfl, D, _, r.2.1, _, rfl, rfl, .of T1.hd, ab, _, rfl, b, _, r.1, r.1, rfl, rfl, hb, ixN_nat (by rw [rowV_len]; omega), ?_⟩
      exact ⟨_, _, _, rfl, same_upd S1 (fr b (get_mem eb)), T1.put (v := r.2.2) eb (show r.1 < n by omega)⟩
    obtain ⟨x2, x3, x4, rfl, S3, T3⟩ := hP
    rw [List.length_map, hts, List.take_length] at T3
    -- the stages
    refine ⟨_, rfl, n, rfl, by omega, by omega, for_rangeN (n := n) (fun k σ H1 => ∃ (x6 x7 x9 : Option V), σ = [some (.ref v), some (iv n), x2, x3, x4, some (iv (far1 rs)), x6, x7, some (.ref D), x9] ∧ Same H H1 ∧ TabAt H1 D ps n ((List.range k).foldl (fwK n) (rs.foldl road1 (init1 rs))))
      ⟨_, _, _, rfl, S3, T3⟩ (fun k σ H1 hk hP => ?_) (fun σ H1 hP => ?_)⟩
    · obtain ⟨x6, x7, x9, rfl, S, T⟩ := hP
      rw [range_fold]
      generalize (List.range k).foldl (fwK n) (rs.foldl road1 (init1 rs)) = g at T
      refine ⟨_, rfl, n, rfl, by omega, by omega, for_rangeN (n := n) (fun i σ H1 => ∃ (x6 x7 : Option V), σ = [some (.ref v), some (iv n), x2, x3, x4, some (iv (far1 rs)), x6, x7, some (.ref D), some (iv k)] ∧ Same H H1 ∧ TabAt H1 D ps n ((List.range i).foldl (fwI n k) g))
        ⟨_, _, rfl, S, T⟩ (fun i σ H1 hi hP => ?_) (fun σ H1 hP => ?_)⟩
      · obtain ⟨x6, x7, rfl, S, T⟩ := hP
        rw [range_fold]
        generalize (List.range i).foldl (fwI n k) g = g1 at T
        refine ⟨_, rfl, n, rfl, by omega, by omega, for_rangeN (n := n) (fun j σ H1 => ∃ (x7 : Option V), σ = [some (.ref v), some (iv n), x2, x3, x4, some (iv (far1 rs)), some (iv i), x7, some (.ref D), some (iv k)] ∧ Same H H1 ∧ TabAt H1 D ps n ((List.range j).foldl (fwJ k i) g1))
          ⟨_, rfl, S, T⟩ (fun j σ H1 hj hP => ?_) (fun σ H1 hP => ?_)⟩
        · obtain ⟨x7, rfl, S, T⟩ := hP
          rw [range_fold]
          generalize (List.range j).foldl (fwJ k i) g1 = u at T
          obtain ⟨a, ea, ha, aa⟩ := T.get (i := i) hi
          obtain ⟨b, eb, hb, ab⟩ := T.get (i := k) hk
          refine ⟨_, rfl, _, rfl, D, _, i, _, rfl, rfl, .of T.hd, aa, _, rfl, a, _, j, _, rfl, rfl, .of ha, rowV_at hj, ?_⟩
          refine ⟨_, rfl, _, rfl, D, _, i, _, rfl, rfl, .of T.hd, aa, _, rfl, a, _, k, _, rfl, rfl, .of ha, rowV_at hk, ?_⟩
          refine ⟨_, rfl, _, rfl, D, _, k, _, rfl, rfl, .of T.hd, ab, _, rfl, b, _, j, _, rfl, rfl, .of hb, rowV_at hj, u i k, u k j, rfl, rfl, u i j, _, rfl, ?_⟩
          refine ⟨_, rfl, _, rfl, D, _, i, _, rfl, rfl, .of T.hd, aa, _, rfl, a, _, j, j, rfl, rfl, ha, ixN_nat (by rw [rowV_len]; omega), ?_⟩
          have e : (if ((u i k : Int) + (u k j : Int)) < (u i j : Int) then ((u i k : Int) + (u k j : Int)) else (u i j : Int)) = ((min (u i j) (u i k + u k j) : Nat) : Int) := by split <;> omega
          refine ⟨_, rfl, same_upd S (fr a (get_mem ea)), ?_⟩
          rw [e]
          exact T.put ea hj
        · obtain ⟨x7, rfl, S, T⟩ := hP
          exact ⟨_, _, rfl, S, T⟩
      · obtain ⟨x6, x7, rfl, S, T⟩ := hP
        exact ⟨_, _, _, rfl, S, T⟩
    · obtain ⟨x6, x7, x9, rfl, S, T⟩ := hP
      exact ⟨_, rfl, Qk H1 D ps S T⟩
end
end Nh
namespace Nh
open PySem PySem.Spec PyProof.Rows L2
def TupTab (H : Hp) (p : Addr) (n : Nat) (g : Tab) : Prop := ∃ ts : List Addr, H p = some (.tup (ts.map V.ref)) ∧ ts.length = n ∧ ∀ (i : Nat) (t : Addr), ts[i]? = some t → H t = some (.tup (rowV n g i))
section
variable {P : Program} {w : World} {K : PySem.W.Frag} {mg : Str → Option Value} {base : Heap}
/-- rows of tuples as they are made -/
theorem tups_step {H0 H : Hp} {D t : Addr} {us : List Addr} {n i : Nat} {g : Tab} (hD : H D = some (.lst (us.map V.ref))) (len : us.length = i) (rows : ∀ (m : Nat) (a : Addr), us[m]? = some a → H a = some (.tup (rowV n g m))) (ht : H t = some (.tup (rowV n g i))) :
    ∃ us' : List Addr, upd H D (.lst (us.map V.ref ++ [.ref t])) D = some (.lst (us'.map V.ref)) ∧ us'.length = i + 1 ∧ ∀ (m : Nat) (a : Addr), us'[m]? = some a → upd H D (.lst (us.map V.ref ++ [.ref t])) a = some (.tup (rowV n g m)) := by
  refine ⟨us ++ [t], by rw [upd_same, List.map_append]; rfl, by simp [len], fun m a e => ?_⟩
  have key : H a = some (.tup (rowV n g m)) := by
    by_cases h : m < us.length
    · rw [List.getElem?_append_left h] at e
      exact rows m a e
    · rw [List.getElem?_append_right (by omega)] at e
      have hm : m - us.length = 0 := by
        generalize m - us.length = k at e
        cases k with
        | zero => rfl
        | succ k => simp at e
      have em : m = i := by omega
      rw [hm] at e
      have : t = a := Option.some.inj e
      subst this
      rw [em]
      exact ht
  rw [upd_ne (ne_of key hD (fun z => nomatch z))]
  exact key
theorem scDist : FnScope ["web", "row"] ["web"] (defScope sDist) := ⟨rfl, rfl, rfl, by decide +kernel, rfl, by decide +kernel, by decide +kernel⟩
def spDist : Sp := fun vs H Q _ => ∃ (v : Addr) (n : Nat) (ws : List Int) (rs : List Road), vs = [.ref v] ∧ WebAt H v ws rs ∧ Good n ws rs ∧ ∀ (H' : Hp) (p : Addr), Same H H' → TupTab H' p n (FW n rs) → Q (.ref p) H'
theorem ok_dist {f fN fT : Addr} {fd fdN fdT : FuncData} (F : Fun K "distances" "distances" sDist f fd)
    (GN : FnOk P w K mg base CX0 3 fN fdN ["web"] spNeedW) (kN : PySem.W.keepIn K (.ref fN) = true) (bN : Binds K fdN ["web"] []) (gN : mg "need_web" = some (.ref fN))
    (FT : Fun K "table_of" "table_of" sTable fT fdT) (bT : Binds K fdT ["web"] []) (gT : mg "table_of" = some (.ref fT)) (B : Free mg) : FnOk P w K mg base CX0 4 f fd ["web"] spDist := by
  have GT : FnOk P w K mg base CX0 3 fT fdT ["web"] spTable := ok_table FT B
  refine F.ok scDist (fun vs H Q E h => ?_) (fun cdv A outer s H vs Q E hr h => ?_)
  · obtain ⟨v, n, ws, rs, rfl, _⟩ := h
    rfl
  · obtain ⟨v, n, ws, rs, rfl, hW, G, Qk⟩ := h
    have n8 := G.n8
    refine ⟨_, pss_cons (ps_expr (pe_call GN hr (by rfl) gN kN bN .nil pass0 (pa_cons (pv 0) pa_nil)))
      (pss_one (ps_ret (pe_callTy call_tuple_of (by rfl) B.tuple bt_tuple (pa_cons
        (pe_lc (own := [("row", 1)]) (g := gName 1) (by rfl) scDist.nd (pi_list (pe_call GT hr (by rfl) gT FT.kp bT .nil pass0 (pa_cons (pv 0) pa_nil))) (blkOk_by (own := [("row", 1)]) (N := ["web", "row"]) (sc := defScope sDist) (by decide +kernel))
          (fun _ _ _ _ _ => pg_name (i := 1) scDist.nd rfl (Or.inl rfl))
          (fun _ _ _ _ _ => pts_nil)
          (fun _ _ _ _ _ => pe_callTy (r := rTupOf K) call_tuple_of (by rfl) B.tuple bt_tuple (pa_cons (pv 1) pa_nil))) pa_nil)))), ?_⟩
    refine ⟨_, rfl, v, n, ws, rs, rfl, hW, G, fun H1 S1 => ?_⟩
    refine ⟨_, rfl, v, n, ws, rs, rfl, hW.same S1, G, fun H2 p ps S2 T => ?_⟩
    refine ⟨p, rfl, ⟨_, .of T.hd⟩, fun D nD => lc_list (K := K) (a := p) (xs := ps.map V.ref) (fun i H3 => ∃ us : List Addr, Same H2 H3 ∧ H3 D = some (.lst (us.map V.ref)) ∧ us.length = i ∧ ∀ (m : Nat) (a : Addr), us[m]? = some a → H3 a = some (.tup (rowV n (FW n rs) m)))
      ⟨[], same_new (.refl H2) nD, upd_same, rfl, fun m a h => by simp at h⟩ (fun i H3 _ hP => ?_) (fun i x H3 hx hP => ?_) (fun H3 hP => ?_)⟩
    · obtain ⟨us, S3, _⟩ := hP
      exact .of (S3 _ _ T.hd)
    · obtain ⟨a, ha, rfl⟩ := mget hx
      obtain ⟨us, S3, hD, len, rows⟩ := hP
      have hi : i < n := by have := get_lt ha; rw [T.len] at this; exact this
      refine ⟨rfl, _, rfl, a, _, rfl, .inl ⟨.of (S3 _ _ (T.row i a ha)), fun t nt => ?_⟩⟩
      have hD' := keep_new (u := .tup (rowV n (FW n rs) i)) hD nt
      obtain ⟨us', e1, e2, e3⟩ := tups_step (H0 := H) hD' len (fun m a e => keep_new (rows m a e) nt) upd_same
      exact ⟨_, hD', small1000 (by rw [List.length_map]; omega), us', same_upd (same_new S3 nt) nD, e1, e2, e3⟩
    · obtain ⟨us, S3, hD, len, rows⟩ := hP
      rw [List.length_map, T.len] at len
      refine ⟨D, _, rfl, .inl ⟨.of hD, fun t nt => ?_⟩⟩
      exact Qk _ t ((S1.trans S2).trans (same_new S3 nt)) ⟨us, upd_same, len, fun m a e => keep_new (rows m a e) nt⟩
/-! ### the law's rows -/
abbrev nRows : List Str := ["_law_web_here", "_law_count", "_law_far", "_law_i", "_law_rows_here", "_law_turn", "_law_a", "_law_b", "_law_length", "_law_j"]
theorem scRows : FnScope nRows ["_law_web_here"] (defScope sRows) := ⟨rfl, rfl, rfl, by decide +kernel, rfl, by decide +kernel, by decide +kernel⟩
def spRows : Sp := fun vs H Q _ => ∃ (v : Addr) (n : Nat) (ws : List Int) (rs : List Road), vs = [.ref v] ∧ WebAt H v ws rs ∧ Good n ws rs ∧ ∀ (H' : Hp) (p : Addr) (ps : List Addr), Same H H' → TabAt H' p ps n (BF n rs) → Q (.ref p) H'
theorem ok_rows {f : Addr} {fd : FuncData} {k : Nat} (F : Fun K "_law_rows" "_law_rows" sRows f fd) (B : Free mg) : FnOk P w K mg base CX0 (k + 1) f fd ["_law_web_here"] spRows := by
  refine F.ok scRows (fun vs H Q E h => ?_) (fun cdv A outer s H vs Q E hr h => ?_)
  · obtain ⟨v, n, ws, rs, rfl, _⟩ := h
    rfl
  · obtain ⟨v, n, ws, rs, rfl, ⟨tw, tr, hv, htw, ts, htr, hts, hrt⟩, G, Qk⟩ := h
    refine ⟨_, pss_cons (ps_asg (pe_tup (pa_cons (pe_callB call_len (by rfl) B.len PySem.boot_len (pa_cons (pe_ix ix_tup (pv 0) pe_int (fun _ _ => rfl)) pa_nil)) (pa_cons (pe_op op_pow pe_int pe_int) pa_nil))) (pg_tup (by rfl) (pgs_cons (pg_name (i := 1) scRows.nd rfl (.inr rfl)) (pgs_cons (pg_name (i := 2) scRows.nd rfl (.inr rfl)) pgs_nil))))
      (pss_cons (ps_setLc (i := 4) (own := [("_law_i", 3)]) (g := gName 3) (by rfl) scRows.nd rfl rfl (sw_true rfl rfl rfl (by decide +kernel)) (pi_range1 (by rfl) B.range (pa_cons (pv 1) pa_nil)) (blkOk_by (own := [("_law_i", 3)]) (N := nRows) (sc := defScope sRows) (by decide +kernel))
          (fun _ _ _ _ _ => pg_name (i := 3) scRows.nd rfl (Or.inr rfl))
          (fun _ _ _ _ _ => pts_nil)
          (fun _ _ _ _ _ => pe_lc (own := [("_law_j", 9)]) (g := gName 9) (by rfl) scRows.nd (pi_range1 (by rfl) B.range (pa_cons (pv 1) pa_nil)) (blkOk_by (own := [("_law_j", 9)]) (N := nRows) (sc := relS (lcS sRows 1) (defScope sRows)) (by decide +kernel))
            (fun _ _ _ _ _ => pg_name (i := 9) scRows.nd rfl (Or.inl rfl))
            (fun _ _ _ _ _ => pts_nil)
            (fun _ _ _ _ _ => pe_ifExp (pt_cmpR op_eq (pv 3) (pv 9) (nomark _)) pe_int (pv 2))))
      (pss_cons (ps_for PassesOwn.never rfl (pi_range1 (by rfl) B.range (pa_cons (pv 1) pa_nil)) (pg_name (i := 5) scRows.nd rfl (.inl rfl))
        (pss_one (ps_for PassesOwn.never rfl (pi_tup (pe_ix ix_tup (pv 0) pe_int (fun _ _ => rfl))) (pg_tup (by rfl) (pgs_cons (pg_name (i := 6) scRows.nd rfl (.inl rfl)) (pgs_cons (pg_name (i := 7) scRows.nd rfl (.inl rfl)) (pgs_cons (pg_name (i := 8) scRows.nd rfl (.inl rfl)) pgs_nil))))
          (pss_one (ps_for PassesOwn.never rfl (pi_range1 (by rfl) B.range (pa_cons (pv 1) pa_nil)) (pg_name (i := 3) scRows.nd rfl (.inl rfl))
            (pss_cons (ps_asg (pe_callB (call_min2 rfl) (by rfl) B.min bt_min (pa_cons (pe_ix ix_list (pe_ix ix_list (pv 4) (pv 3) (fun _ _ => rfl)) (pv 7) (fun _ _ => rfl)) (pa_cons (pe_op op_add (pe_ix ix_list (pe_ix ix_list (pv 4) (pv 3) (fun _ _ => rfl)) (pv 6) (fun _ _ => rfl)) (pv 8)) pa_nil)))
              (pg_sub (pe_ix ix_list (pv 4) (pv 3) (fun _ _ => rfl)) (pv 7) set_list))
            (pss_one (ps_asg (pe_callB (call_min2 rfl) (by rfl) B.min bt_min (pa_cons (pe_ix ix_list (pe_ix ix_list (pv 4) (pv 3) (fun _ _ => rfl)) (pv 6) (fun _ _ => rfl)) (pa_cons (pe_op op_add (pe_ix ix_list (pe_ix ix_list (pv 4) (pv 3) (fun _ _ => rfl)) (pv 7) (fun _ _ => rfl)) (pv 8)) pa_nil)))
              (pg_sub (pe_ix ix_list (pv 4) (pv 3) (fun _ _ => rfl)) (pv 6) set_list)))))))))
      (pss_one (ps_ret (pv 4))))), ?_⟩
    have wl := G.wl
    have n8 := G.n8
    refine ⟨_, rfl, v, _, 0, _, rfl, rfl, .of hv, atI_nat (j := 0) rfl, _, n, rfl, .inr ⟨_, .of htw, by rw [List.length_map, wl]⟩, 10, 6, rfl, rfl, ⟨by decide, by decide, by decide⟩, line_big (by simp), fun T0 nT0 => ⟨T0, [iv n, iv 1000000], rfl, .of upd_same, rfl, _, _, rfl, _, _, rfl, rfl, ?_⟩⟩
    have S := same_new (o := .tup [V.int (n : Int), (fun i j : Int => V.int (i ^ j.toNat)) 10 6]) (.refl H) nT0
    refine ⟨_, rfl, n, rfl, by omega, by omega, fun D nD => lc_rangeN (n := n) (fun i H2 => Rising H H2 D n init2 i) ⟨[], same_new S nD, upd_same, rfl, by simp, by simp, fun a h => by simp at h, fun m a h => by simp at h⟩ (fun i H2 hi hP => ?_) (fun H2 hP => ?_)⟩
    · obtain ⟨ps, S2, hD, len, nd, nDp, fr, rows⟩ := hP
      refine ⟨rfl, ⟨_, rfl, n, rfl, by omega, by omega, fun D2 nD2 => lc_rangeN (n := n) (fun j H3 => Same H2 H3 ∧ H3 D2 = some (.lst (rowV j init2 i))) ⟨same_new (.refl H2) nD2, upd_same⟩ (fun j H3 hj hP => ?_) (fun H3 hP => ?_)⟩⟩
      · obtain ⟨S3, h2⟩ := hP
        refine ⟨rfl, ?_⟩
        have fin : ∀ y, y = iv (init2 i j) → ∃ acc, H3 D2 = some (.lst acc) ∧ acc.length < sizeLine ∧ (Same H2 (upd H3 D2 (.lst (acc ++ [y]))) ∧ upd H3 D2 (.lst (acc ++ [y])) D2 = some (.lst (rowV (j + 1) init2 i))) := fun y e => by
          subst e
          refine ⟨_, h2, small1000 (by rw [rowV_len]; omega), same_upd S3 nD2, ?_⟩
          rw [upd_same, rowV_succ]
        refine ⟨_, rfl, _, rfl, rfl, _, rfl, ite2 (fun e => ?_) (fun e => ?_)⟩
        · have e1 : i = j := iv_inj (of_decide_eq_true e)
          exact fin _ (by unfold init2; rw [if_pos e1]; rfl)
        · have e1 : i ≠ j := fun z => e (by rw [z]; exact decide_eq_true rfl)
          exact ⟨_, rfl, fin _ (by unfold init2; rw [if_neg e1])⟩
      · obtain ⟨S3, h2⟩ := hP
        refine ⟨_, S3 _ _ hD, small1000 (by rw [List.length_map]; omega), ?_⟩
        exact Rising.step (S2.trans S3) (S3 _ _ hD) len nd nDp fr (fun m a e => S3 _ _ (rows m a e)) h2 (fun m => by
          obtain ⟨j, e⟩ := List.mem_iff_getElem?.mp m
          have := rows j D2 e
          rw [nD2] at this
          cases this) (ne_of_none hD nD2).symm (S2.free nD2) (S.free nD)
    obtain ⟨ps, S2, T, fr⟩ := hP.tab
    refine ⟨_, rfl, n, rfl, by omega, by omega, for_rangeN (n := n) (fun k σ H1 => ∃ (x3 x5 x6 x7 x8 : Option V), σ = [some (.ref v), some (iv n), some (iv 1000000), x3, some (.ref D), x5, x6, x7, x8, none] ∧ Same H H1 ∧ TabAt H1 D ps n ((List.range k).foldl (bfT n rs) init2))
      ⟨_, _, _, _, _, rfl, S2, T⟩ (fun k σ H1 hk hP => ?_) (fun σ H1 hP => ?_)⟩
    · obtain ⟨x3, x5, x6, x7, x8, rfl, S, T⟩ := hP
      rw [range_fold]
      generalize (List.range k).foldl (bfT n rs) init2 = g at T
      refine ⟨_, rfl, v, _, 1, _, rfl, rfl, sq_t S hv, atI_nat (j := 1) rfl, tr, rfl, ⟨_, sq_t S htr⟩, for_tup (K := K) (a := tr) (xs := ts.map V.ref) (fun i σ H1 => ∃ (x3 x6 x7 x8 : Option V), σ = [some (.ref v), some (iv n), some (iv 1000000), x3, some (.ref D), some (iv k), x6, x7, x8, none] ∧ Same H H1 ∧ TabAt H1 D ps n ((rs.take i).foldl (bfR n) g))
        ⟨_, _, _, _, rfl, S, T⟩ (fun i σ H1 _ hP => ?_) (fun i x σ H1 hx hP => ?_) (fun σ H1 hP => ?_)⟩
      · obtain ⟨_, _, _, _, _, S, _⟩ := hP
        exact sq_t S htr
      · obtain ⟨t, ht, rfl⟩ := mget hx
        have hi : i < rs.length := by have := get_lt ht; omega
        obtain ⟨r, hr'⟩ := get_of hi
        have R := G.rd r (get_mem hr')
        obtain ⟨x3, x6, x7, x8, rfl, S, T⟩ := hP
        rw [take_snoc hr', List.foldl_append]
        generalize (rs.take i).foldl (bfR n) g = g1 at T
        refine ⟨t, _, rfl, sq_t S (hrt i t r ht hr'), rfl, _, _, rfl, _, _, rfl, _, _, rfl, rfl, ?_⟩
        refine ⟨_, rfl, n, rfl, by omega, by omega, for_rangeN (n := n) (fun j σ H1 => ∃ (x3 : Option V), σ = [some (.ref v), some (iv n), some (iv 1000000), x3, some (.ref D), some (iv k), some (iv r.1), some (iv r.2.1), some (iv r.2.2), none] ∧ Same H H1 ∧ TabAt H1 D ps n ((List.range j).foldl (bfI r) g1))
          ⟨_, rfl, S, T⟩ (fun j σ H1 hj hP => ?_) (fun σ H1 hP => ?_)⟩
        · obtain ⟨x3, rfl, S, T⟩ := hP
          rw [range_fold]
          generalize (List.range j).foldl (bfI r) g1 = u at T
          obtain ⟨a, ea, ha, aa⟩ := T.get (i := j) hj
          refine ⟨_, rfl, _, rfl, D, _, j, _, rfl, rfl, .of T.hd, aa, _, rfl, a, _, r.2.1, _, rfl, rfl, .of ha, rowV_at (by omega), ?_⟩
          refine ⟨_, rfl, _, rfl, D, _, j, _, rfl, rfl, .of T.hd, aa, _, rfl, a, _, r.1, _, rfl, rfl, .of ha, rowV_at (by omega), _, rfl, u j r.1, r.2.2, rfl, rfl, u j r.2.1, _, rfl, ?_⟩
          refine ⟨_, rfl, _, rfl, D, _, j, _, rfl, rfl, .of T.hd, aa, _, rfl, a, _, r.2.1, r.2.1, rfl, rfl, ha, ixN_nat (by rw [rowV_len]; omega), ?_⟩
          have e : (if ((u j r.1 : Int) + (r.2.2 : Int)) < (u j r.2.1 : Int) then ((u j r.1 : Int) + (r.2.2 : Int)) else (u j r.2.1 : Int)) = ((min (u j r.2.1) (u j r.1 + r.2.2) : Nat) : Int) := by split <;> omega
          rw [e]
          have T1 : TabAt _ D ps n (bfA r u j) := T.put (v := min (u j r.2.1) (u j r.1 + r.2.2)) ea (show r.2.1 < n by omega)
          have S1 := same_upd (o := .lst ((rowV n u j).set r.2.1 (iv (min (u j r.2.1) (u j r.1 + r.2.2))))) S (fr a (get_mem ea))
          revert T1 S1
          generalize upd H1 a (.lst ((rowV n u j).set r.2.1 (iv (min (u j r.2.1) (u j r.1 + r.2.2))))) = H5
          intro T1 S1
          rw [show bfI r u j = bfB r (bfA r u j) j from rfl]
          generalize bfA r u j = u at T1
          obtain ⟨a, ea, ha, aa⟩ := T1.get (i := j) hj
          refine ⟨_, rfl, _, rfl, D, _, j, _, rfl, rfl, .of T1.hd, aa, _, rfl, a, _, r.1, _, rfl, rfl, .of ha, rowV_at (by omega), ?_⟩
          refine ⟨_, rfl, _, rfl, D, _, j, _, rfl, rfl, .of T1.hd, aa, _, rfl, a, _, r.2.1, _, rfl, rfl, .of ha, rowV_at (by omega), _, rfl, u j r.2.1, r.2.2, rfl, rfl, u j r.1, _, rfl, ?_⟩
          refine ⟨_, rfl, _, rfl, D, _, j, _, rfl, rfl, .of T1.hd, aa, _, rfl, a, _, r.1, r.1, rfl, rfl, ha, ixN_nat (by rw [rowV_len]; omega), ?_⟩
          have e : (if ((u j r.2.1 : Int) + (r.2.2 : Int)) < (u j r.1 : Int) then ((u j r.2.1 : Int) + (r.2.2 : Int)) else (u j r.1 : Int)) = ((min (u j r.1) (u j r.2.1 + r.2.2) : Nat) : Int) := by split <;> omega
          refine ⟨_, rfl, same_upd S1 (fr a (get_mem ea)), ?_⟩
          rw [e]
          exact T1.put ea (show r.1 < n by omega)
        · obtain ⟨x3, rfl, S, T⟩ := hP
          exact ⟨_, _, _, _, rfl, S, T⟩
      · obtain ⟨x3, x6, x7, x8, rfl, S, T⟩ := hP
        rw [List.length_map, hts, List.take_length] at T
        exact ⟨_, _, _, _, _, rfl, S, T⟩
    · obtain ⟨x3, x5, x6, x7, x8, rfl, S, T⟩ := hP
      exact ⟨_, rfl, Qk H1 D ps S T⟩
end
end Nh
namespace Nh
open PySem PySem.Spec PyProof.Rows L2
/-- the pair that stands at x -/
def kH (H : Hp) : V → Int × Int
  | .ref t => match H t with
    | some (.tup [.int a, .int b]) => (a, b)
    | _ => (0, 0)
  | _ => (0, 0)
theorem kH_of {H : Hp} {t : Addr} {a b : Int} (h : H t = some (.tup [.int a, .int b])) : kH H (.ref t) = (a, b) := by
  unfold kH
  simp only [h]
def PairsV (H : Hp) (ys : List V) (qs : List (Nat × Nat)) : Prop := ys.length = qs.length ∧ ∀ (i : Nat) (y : V) (q : Nat × Nat), ys[i]? = some y → qs[i]? = some q → ∃ t, y = .ref t ∧ H t = some (.tup [iv q.1, iv q.2])
theorem PairsV.same {H H' : Hp} {ys : List V} {qs : List (Nat × Nat)} (S : Same H H') (h : PairsV H ys qs) : PairsV H' ys qs := ⟨h.1, fun i y q a b => by
  obtain ⟨t, e, ht⟩ := h.2 i y q a b
  exact ⟨t, e, S _ _ ht⟩⟩
theorem PairsAt.v {H : Hp} {us : List Addr} {qs : List (Nat × Nat)} (h : PairsAt H us qs) : PairsV H (us.map V.ref) qs := ⟨by rw [List.length_map]; exact h.1, fun i y q a b => by
  obtain ⟨u, hu, rfl⟩ := mget a
  exact ⟨u, rfl, h.2 i u q hu b⟩⟩
theorem PairsV.mem {H : Hp} {ys : List V} {qs : List (Nat × Nat)} (h : PairsV H ys qs) {y : V} (m : y ∈ ys) : ∃ q t, q ∈ qs ∧ y = .ref t ∧ H t = some (.tup [iv q.1, iv q.2]) := by
  obtain ⟨i, e⟩ := List.mem_iff_getElem?.mp m
  have hi := get_lt e
  obtain ⟨q, eq⟩ := get_of (l := qs) (i := i) (by rw [← h.1]; exact hi)
  obtain ⟨t, e1, e2⟩ := h.2 i y q e eq
  exact ⟨q, t, get_mem eq, e1, e2⟩
theorem PairsV.mem' {H : Hp} {ys : List V} {qs : List (Nat × Nat)} (h : PairsV H ys qs) {q : Nat × Nat} (m : q ∈ qs) : ∃ t, V.ref t ∈ ys ∧ H t = some (.tup [iv q.1, iv q.2]) := by
  obtain ⟨i, e⟩ := List.mem_iff_getElem?.mp m
  have hi := get_lt e
  obtain ⟨y, ey⟩ := get_of (l := ys) (i := i) (by rw [h.1]; exact hi)
  obtain ⟨t, e1, e2⟩ := h.2 i y q ey e
  exact ⟨t, e1 ▸ get_mem ey, e2⟩
theorem nb_len (u : Nat) (r : Road) : (nb u r).length ≤ 2 := by
  unfold nb
  rw [List.length_append]
  split <;> split <;> simp
theorem nbs_len (u : Nat) : ∀ rs : List Road, (nbs rs u).length ≤ 2 * rs.length
  | [] => Nat.le_refl _
  | r :: rs => by
    have h1 := nb_len u r
    have h2 := nbs_len u rs
    unfold nbs at h2 ⊢
    rw [List.flatMap_cons, List.length_append, List.length_cons]
    omega
section
variable {P : Program} {w : World} {K : PySem.W.Frag} {mg : Str → Option Value} {base : Heap}
theorem scSteps : FnScope ["web", "point", "found", "a", "b", "length"] ["web", "point"] (defScope sSteps) := ⟨rfl, rfl, rfl, by decide +kernel, rfl, by decide +kernel, by decide +kernel⟩
def spSteps : Sp := fun vs H Q _ => ∃ (v : Addr) (n : Nat) (ws : List Int) (rs : List Road) (u : Nat), vs = [.ref v, iv u] ∧ WebAt H v ws rs ∧ Good n ws rs ∧
  ∀ (H' : Hp) (p : Addr) (ys : List V) (qs : List (Nat × Nat)), Same H H' → H' p = some (.lst ys) → PairsV H' ys qs → (∀ q, q ∈ qs ↔ Adj rs u q.1 q.2) → qs.Pairwise (fun q r => q.1 ≤ r.1) → ys.length ≤ 100 → Q (.ref p) H'
theorem ok_steps {f : Addr} {fd : FuncData} {k : Nat} (F : Fun K "steps_from" "steps_from" sSteps f fd) (B : Free mg) : FnOk P w K mg base CX0 (k + 1) f fd ["web", "point"] spSteps := by
  refine F.ok scSteps (fun vs H Q E h => ?_) (fun cdv A outer s H vs Q E hr h => ?_)
  · obtain ⟨v, n, ws, rs, u, rfl, _⟩ := h
    rfl
  · obtain ⟨v, n, ws, rs, u, rfl, ⟨tw, tr, hv, htw, ts, htr, hts, hrt⟩, G, Qk⟩ := h
    refine ⟨_, pss_cons (ps_set (i := 2) scSteps.nd rfl (.inl rfl) (pe_lst pa_nil))
      (pss_cons (ps_for PassesOwn.never rfl (pi_tup (pe_ix ix_tup (pv 0) pe_int (fun _ _ => rfl))) (pg_tup (by rfl) (pgs_cons (pg_name (i := 3) scSteps.nd rfl (.inl rfl)) (pgs_cons (pg_name (i := 4) scSteps.nd rfl (.inl rfl)) (pgs_cons (pg_name (i := 5) scSteps.nd rfl (.inl rfl)) pgs_nil))))
        (pss_cons (ps_if (pt_cmpR op_eq (pv 3) (pv 1) (nomark _)) (pss_one (ps_expr (pe_bm PySem.F.plainAttrs_list PySem.F.slot_list_append PySem.F.type_list_append mt_append (pv 2) (pa_cons (pe_tup (pa_cons (pv 4) (pa_cons (pv 5) pa_nil))) pa_nil)))) pss_nil)
        (pss_one (ps_if (pt_cmpR op_eq (pv 4) (pv 1) (nomark _)) (pss_one (ps_expr (pe_bm PySem.F.plainAttrs_list PySem.F.slot_list_append PySem.F.type_list_append mt_append (pv 2) (pa_cons (pe_tup (pa_cons (pv 3) (pa_cons (pv 5) pa_nil))) pa_nil)))) pss_nil))))
      (pss_one (ps_ret (pe_callB cr_sortedPO (by rfl) B.sorted bt_sorted (pa_cons (pv 2) pa_nil))))), ?_⟩
    refine ⟨Nat.zero_le _, fun D nD => ?_⟩
    have rl := G.rl
    refine ⟨_, rfl, v, _, 1, _, rfl, rfl, sq_t (same_new (.refl H) nD) hv, atI_nat (j := 1) rfl, tr, rfl, ⟨_, sq_t (same_new (.refl H) nD) htr⟩, for_tup (K := K) (a := tr) (xs := ts.map V.ref) (fun i σ H1 => ∃ (x3 x4 x5 : Option V) (us : List Addr), σ = [some (.ref v), some (iv u), some (.ref D), x3, x4, x5] ∧ Same H H1 ∧ H1 D = some (.lst (us.map V.ref)) ∧ PairsAt H1 us (nbs (rs.take i) u))
      ⟨_, _, _, [], rfl, same_new (.refl H) nD, upd_same, .nil⟩ (fun i σ H1 _ hP => ?_) (fun i x σ H1 hx hP => ?_) (fun σ H1 hP => ?_)⟩
    · obtain ⟨_, _, _, _, _, S, _⟩ := hP
      exact sq_t S htr
    · obtain ⟨t, ht, rfl⟩ := mget hx
      have hi : i < rs.length := by have := get_lt ht; omega
      obtain ⟨r, hr'⟩ := get_of hi
      obtain ⟨x3, x4, x5, us, rfl, S, hD, hU⟩ := hP
      have hlen := nbs_len u (rs.take i)
      rw [List.length_take] at hlen
      have e1 : nbs (rs.take (i + 1)) u = nbs (rs.take i) u ++ nb u r := by unfold nbs; rw [take_snoc hr', List.flatMap_append]; simp
      rw [e1]
      generalize nbs (rs.take i) u = ps at hU hlen
      refine ⟨t, _, rfl, sq_t S (hrt i t r ht hr'), rfl, _, _, rfl, _, _, rfl, _, _, rfl, rfl, ?_⟩
      -- one append
      have app : ∀ {H1 : Hp} {us : List Addr} {ps : List (Nat × Nat)} (q : Nat × Nat) (p : Addr), Same H H1 → H1 D = some (.lst (us.map V.ref)) → PairsAt H1 us ps → ps.length ≤ 100 → H1 p = none → ∃ us' : List Addr,
          upd H1 p (.tup [iv q.1, iv q.2]) D = some (.lst (us.map V.ref)) ∧ (us.map V.ref).length < sizeLine ∧ Same H (upd (upd H1 p (.tup [iv q.1, iv q.2])) D (.lst (us.map V.ref ++ [.ref p]))) ∧ upd (upd H1 p (.tup [iv q.1, iv q.2])) D (.lst (us.map V.ref ++ [.ref p])) D = some (.lst (us'.map V.ref)) ∧
            PairsAt (upd (upd H1 p (.tup [iv q.1, iv q.2])) D (.lst (us.map V.ref ++ [.ref p]))) us' (ps ++ [q]) := fun {H1 us ps} q p S hD hU hl np => by
        have hD' := keep_new (u := .tup [iv q.1, iv q.2]) hD np
        refine ⟨us ++ [p], hD', small1000 (by rw [List.length_map, hU.1]; omega), same_upd (same_new S np) nD, by rw [upd_same, List.map_append]; rfl, ?_⟩
        have npD : p ≠ D := (ne_of_none hD np).symm
        refine PairsAt.snoc ⟨hU.1, fun j u' q' a b => ?_⟩ (by rw [upd_ne npD, upd_same])
        have h1 := keep_new (u := .tup [iv q.1, iv q.2]) (hU.2 j u' q' a b) np
        rw [upd_ne (ne_of h1 hD' (fun z => nomatch z))]
        exact h1
      refine ⟨_, rfl, _, rfl, rfl, _, rfl, ite2 (fun e => ?_) (fun e => ?_)⟩
      · have ea : r.1 = u := iv_inj (of_decide_eq_true e)
        refine ⟨_, rfl, .inl ⟨rfl, _, .of hD⟩, _, rfl, _, rfl, line_big (by simp), fun p np => ?_⟩
        obtain ⟨us', a1, a2, a3, a4, a5⟩ := app (r.2.1, r.2.2) p S hD hU (by omega) np
        refine ⟨D, _, _, rfl, rfl, a1, a2, ?_⟩
        revert a3 a4 a5
        generalize upd (upd H1 p (.tup [iv r.2.1, iv r.2.2])) D (.lst (us.map V.ref ++ [.ref p])) = H5
        intro a3 a4 a5
        refine ⟨_, rfl, _, rfl, rfl, _, rfl, ite2 (fun e => ?_) (fun e => ?_)⟩
        · have eb : r.2.1 = u := iv_inj (of_decide_eq_true e)
          have := G.rd r (get_mem hr')
          omega
        · have eb : r.2.1 ≠ u := fun z => e (by rw [z]; exact decide_eq_true rfl)
          refine ⟨_, _, _, us', rfl, a3, a4, ?_⟩
          unfold nb
          rw [if_pos ea, if_neg eb, List.append_nil]
          exact a5
      · have ea : r.1 ≠ u := fun z => e (by rw [z]; exact decide_eq_true rfl)
        refine ⟨_, rfl, _, rfl, rfl, _, rfl, ite2 (fun e => ?_) (fun e => ?_)⟩
        · have eb : r.2.1 = u := iv_inj (of_decide_eq_true e)
          refine ⟨_, rfl, .inl ⟨rfl, _, .of hD⟩, _, rfl, _, rfl, line_big (by simp), fun p np => ?_⟩
          obtain ⟨us', a1, a2, a3, a4, a5⟩ := app (r.1, r.2.2) p S hD hU (by omega) np
          refine ⟨D, _, _, rfl, rfl, a1, a2, _, _, _, us', rfl, a3, a4, ?_⟩
          unfold nb
          rw [if_neg ea, if_pos eb, List.nil_append]
          exact a5
        · have eb : r.2.1 ≠ u := fun z => e (by rw [z]; exact decide_eq_true rfl)
          refine ⟨_, _, _, us, rfl, S, hD, ?_⟩
          unfold nb
          rw [if_neg ea, if_neg eb, List.append_nil, List.append_nil]
          exact hU
    · obtain ⟨x3, x4, x5, us, rfl, S, hD, hU⟩ := hP
      rw [List.length_map, hts, List.take_length] at hU
      have hV := hU.v
      refine ⟨_, rfl, D, _, kH H1, rfl, .of hD, fun x hx => ?_, fun ys p srt stb np => ?_⟩
      · obtain ⟨q, t, _, rfl, e⟩ := hV.mem hx
        exact ⟨t, rfl, by rw [kH_of e]; exact e⟩
      · have pm := stb.perm
        have own : ∀ y ∈ ys, ∃ q t, q ∈ nbs rs u ∧ y = .ref t ∧ H1 t = some (.tup [iv q.1, iv q.2]) ∧ kH H1 y = ((q.1 : Int), (q.2 : Int)) := fun y hy => by
          obtain ⟨q, t, m, rfl, e⟩ := hV.mem (pm.mem_iff.mp hy)
          exact ⟨q, t, m, rfl, e, kH_of e⟩
        let kn : V → Nat × Nat := fun y => ((kH H1 y).1.toNat, (kH H1 y).2.toNat)
        refine Qk _ p ys (ys.map kn) (same_new S np) upd_same ⟨by simp, fun i y q a b => ?_⟩ (fun q => ?_) ?_ ?_
        · obtain ⟨y', a', e⟩ := mget b
          rw [a] at a'
          cases a'
          obtain ⟨q0, t, m, rfl, e1, e2⟩ := own y (get_mem a)
          refine ⟨t, rfl, ?_⟩
          have : q = q0 := by
            rw [← e]
            show ((kH H1 (.ref t)).1.toNat, (kH H1 (.ref t)).2.toNat) = q0
            rw [e2]
            simp
          rw [this]
          exact keep_new e1 np
        · rw [← mem_nbs, List.mem_map]
          constructor
          · rintro ⟨y, hy, e⟩
            obtain ⟨q0, t, m, rfl, e1, e2⟩ := own y hy
            have : q = q0 := by
              rw [← e]
              show ((kH H1 (.ref t)).1.toNat, (kH H1 (.ref t)).2.toNat) = q0
              rw [e2]
              simp
            rw [this]
            exact m
          · intro m
            obtain ⟨t, m', e⟩ := hV.mem' m
            refine ⟨.ref t, pm.mem_iff.mpr m', ?_⟩
            show ((kH H1 (.ref t)).1.toNat, (kH H1 (.ref t)).2.toNat) = q
            rw [kH_of e]
            simp
        · rw [List.pairwise_map]
          refine List.Pairwise.imp_of_mem (fun {x y} hx hy h => ?_) srt
          obtain ⟨q1, t1, _, rfl, _, e1⟩ := own x hx
          obtain ⟨q2, t2, _, rfl, _, e2⟩ := own y hy
          have := SrtO.lexB_no.mp h
          show (kH H1 (.ref t1)).1.toNat ≤ (kH H1 (.ref t2)).1.toNat
          omega
        · rw [pm.length_eq, List.length_map, hU.1]
          have := nbs_len u rs
          omega
end
end Nh
namespace Nh
open PySem PySem.Spec PyProof.Rows L2
theorem at_last {p : List Nat} {x : Nat} (h : lastD p = x) (ne : p ≠ []) : atI (p.map iv) (-1) = some (iv x) := by
  rcases List.eq_nil_or_concat p with rfl | ⟨q, y, rfl⟩
  · exact absurd rfl ne
  · rw [List.concat_eq_append] at h ⊢
    rw [lastD_snoc] at h
    subst h
    rw [List.map_append]
    exact atI_last _ _
section
variable {P : Program} {w : World} {K : PySem.W.Frag} {mg : Str → Option Value} {base : Heap}
abbrev nWayIn : List Str := ["web", "rows", "a", "b", "found", "here", "ahead", "x", "length"]
theorem scWayIn : FnScope nWayIn ["web", "rows", "a", "b"] (defScope sWayIn) := ⟨rfl, rfl, rfl, by decide +kernel, rfl, by decide +kernel, by decide +kernel⟩
def spWayIn : Sp := fun vs H Q _ => ∃ (v p : Addr) (ps : List Addr) (n : Nat) (ws : List Int) (rs : List Road) (f : Tab) (a b : Nat), vs = [.ref v, .ref p, iv a, iv b] ∧ WebAt H v ws rs ∧ Good n ws rs ∧ TabAt H p ps n f ∧ IsDist n rs f ∧ a < n ∧ b < n ∧
  ∀ (H' : Hp) (q : Addr) (g : List Nat), Same H H' → GCh (Tt rs f b) b a g b → H' q = some (.tup (g.map iv)) → Q (.ref q) H'
theorem ok_wayin {f fS : Addr} {fd fdS : FuncData} (F : Fun K "way_in" "way_in" sWayIn f fd) (FS : Fun K "steps_from" "steps_from" sSteps fS fdS) (bS : Binds K fdS ["web", "point"] []) (gS : mg "steps_from" = some (.ref fS)) (B : Free mg) :
    FnOk P w K mg base CX0 3 f fd ["web", "rows", "a", "b"] spWayIn := by
  have GS : FnOk P w K mg base CX0 2 fS fdS ["web", "point"] spSteps := ok_steps FS B
  refine F.ok scWayIn (fun vs H Q E h => ?_) (fun cdv A outer s H vs Q E hr h => ?_)
  · obtain ⟨v, p, ps, n, ws, rs, f, a, b, rfl, _⟩ := h
    rfl
  · obtain ⟨v, p, ps, n, ws, rs, f, a, b, rfl, hW, G, T, Fd, ha, hb, Qk⟩ := h
    refine ⟨_, pss_cons (ps_set (i := 4) scWayIn.nd rfl (.inl rfl) (pe_lst (pa_cons (pv 2) pa_nil)))
      (pss_cons (ps_while PassesOwn.never (pt_cmpR op_ne (pe_ix ix_list (pv 4) (pe_un un_neg pe_int) (fun _ _ => rfl)) (pv 3) (nomark _))
        (pss_cons (ps_set (i := 5) scWayIn.nd rfl (.inr rfl) (pe_ix ix_list (pv 4) (pe_un un_neg pe_int) (fun _ _ => rfl)))
        (pss_cons (ps_setLc (i := 6) (own := [("x", 7), ("length", 8)]) (g := gTup K 2 (gCons (gName 7) (gCons (gName 8) gNil))) (by rfl) scWayIn.nd rfl rfl (sw_true rfl rfl rfl (by decide +kernel)) (pi_list (pe_call GS hr (by rfl) gS FS.kp bS .nil pass0 (pa_cons (pv 0) (pa_cons (pv 5) pa_nil)))) (blkOk_by (own := [("x", 7), ("length", 8)]) (N := nWayIn) (sc := defScope sWayIn) (by decide +kernel))
          (fun _ _ _ _ _ => pg_tup (by rfl) (pgs_cons (pg_name (i := 7) scWayIn.nd rfl (Or.inl rfl)) (pgs_cons (pg_name (i := 8) scWayIn.nd rfl (Or.inl rfl)) pgs_nil)))
          (fun _ _ _ _ _ => pts_one (pt_cmpR op_eq (pe_op op_add (pv 8) (pe_ix (r := rIxL K) ix_list (pe_ix (r := rIxL K) ix_list (pv 1) (pv 7) (fun _ _ => rfl)) (pv 3) (fun _ _ => rfl))) (pe_ix (r := rIxL K) ix_list (pe_ix (r := rIxL K) ix_list (pv 1) (pv 5) (fun _ _ => rfl)) (pv 3) (fun _ _ => rfl)) (nomark _)))
          (fun _ _ _ _ _ => pv 7))
        (pss_one (ps_expr (pe_bm PySem.F.plainAttrs_list PySem.F.slot_list_append PySem.F.type_list_append mt_append (pv 4) (pa_cons (pe_ix ix_list (pv 6) pe_int (fun _ _ => rfl)) pa_nil)))))))
      (pss_one (ps_ret (pe_callTy call_tuple_of (by rfl) B.tuple bt_tuple (pa_cons (pv 4) pa_nil))))), ?_⟩
    refine ⟨_, rfl, line_big (by simp), fun D nD => ?_⟩
    let W : Nat → L2.St → Hp → Prop := fun m σ H1 => ∃ (g : List Nat) (x : Nat) (x5 x6 : Option V), σ = [some (.ref v), some (.ref p), some (iv a), some (iv b), some (.ref D), x5, x6, none, none] ∧ GCh (Tt rs f b) b a g x ∧ m = f x b ∧ Same H H1 ∧ H1 D = some (.lst (g.map iv))
    refine ⟨W, ⟨_, [a], a, none, none, rfl, .one, rfl, same_new (.refl H) nD, upd_same⟩, fun m σ H1 hP => ?_⟩
    obtain ⟨g, x, x5, x6, rfl, ch, rfl, S, hD⟩ := hP
    have cl := ch.ch.last
    have cn := (ch.ch.down G Fd ha).2.2
    have clen := ch.ch.len G Fd ha
    have n8 := G.n8
    by_cases e : x = b
    · subst e
      refine ⟨_, rfl, 1, rfl, D, _, -1, _, rfl, rfl, .of hD, at_last cl.1 cl.2, _, rfl, rfl, false, congrArg V.bl (show (!decide (iv x = iv x)) = false by simp), iteF ?_⟩
      exact ⟨_, rfl, D, _, rfl, .inl ⟨.of hD, fun q nq => Qk _ q g (same_new S nq) ch upd_same⟩⟩
    · have e' : (!decide (iv x = iv b)) = true := by
        rw [decide_eq_false (fun z => e (iv_inj z))]
        rfl
      refine ⟨_, rfl, 1, rfl, D, _, -1, _, rfl, rfl, .of hD, at_last cl.1 cl.2, _, rfl, rfl, true, congrArg V.bl e', iteT ?_⟩
      refine ⟨fun σ' H' => ∃ m', m' < f x b ∧ W m' σ' H', fun σ' H' h => h, ?_⟩
      refine ⟨_, rfl, 1, rfl, D, _, -1, _, rfl, rfl, .of hD, at_last cl.1 cl.2, ?_⟩
      refine ⟨_, rfl, _, rfl, v, n, ws, rs, x, rfl, hW.same S, G, fun H2 q ys qs S2 hq pv_ mem srt len => ?_⟩
      have hD2 := S2 _ _ hD
      have S02 := S.trans S2
      have T2 := T.same S02
      let keep : Nat × Nat → Bool := fun s => decide (s.2 + f s.1 b = f x b)
      refine ⟨q, rfl, ⟨_, .of hq⟩, fun E2 nE => lc_list (K := K) (a := q) (xs := ys) (fun i H3 => Same H2 H3 ∧ H3 E2 = some (.lst (((qs.take i).filter keep).map fun s => iv s.1)))
        ⟨same_new (.refl H2) nE, upd_same⟩ (fun i H3 _ hP => .of (hP.1 _ _ hq)) (fun i y H3 hy hP => ?_) (fun H3 hP => ?_)⟩
      · obtain ⟨S3, hE⟩ := hP
        obtain ⟨s, es⟩ := get_of (l := qs) (i := i) (by rw [← pv_.1]; exact get_lt hy)
        obtain ⟨t, rfl, ht⟩ := pv_.2 i y s hy es
        have ad := (mem s).mp (get_mem es)
        have L := ad.lt G
        have T3 := T2.same S3
        obtain ⟨a1, e1, r1, i1⟩ := T3.get (i := s.1) L.2.1
        obtain ⟨a2, e2, r2, i2⟩ := T3.get (i := x) cn
        refine ⟨t, _, rfl, .of (S3 _ _ ht), rfl, _, _, rfl, _, _, rfl, rfl, rfl, ?_⟩
        refine ⟨_, rfl, _, rfl, _, rfl, p, _, s.1, _, rfl, rfl, .of T3.hd, i1, _, rfl, a1, _, b, _, rfl, rfl, .of r1, rowV_at hb, s.2, f s.1 b, rfl, rfl, _, rfl, _, rfl, p, _, x, _, rfl, rfl, .of T3.hd, i2, _, rfl, a2, _, b, _, rfl, rfl, .of r2, rowV_at hb, rfl, keep s, congrArg V.bl ?_, ?_⟩
        · show decide (V.int ((s.2 : Int) + (f s.1 b : Int)) = iv (f x b)) = decide (s.2 + f s.1 b = f x b)
          by_cases z : s.2 + f s.1 b = f x b
          · rw [decide_eq_true z, decide_eq_true]
            show V.int _ = V.int _
            congr 1
            omega
          · rw [decide_eq_false z, decide_eq_false]
            intro c
            have := V.int.inj c
            omega
        rw [take_snoc es, List.filter_append]
        by_cases z : keep s = true
        · rw [z]
          refine iteT ⟨_, rfl, _, hE, small1000 ?_, same_upd S3 nE, ?_⟩
          · rw [List.length_map]
            have := List.length_filter_le keep (qs.take i)
            rw [List.length_take] at this
            have := pv_.1
            omega
          · rw [upd_same, List.filter_cons, if_pos z, List.filter_nil, List.map_append]
            rfl
        · have z' : keep s = false := by simpa using z
          rw [z']
          refine iteF ⟨S3, ?_⟩
          rw [List.filter_cons, if_neg z, List.filter_nil, List.append_nil]
          exact hE
      · obtain ⟨S3, hE⟩ := hP
        rw [pv_.1, List.take_length] at hE
        obtain ⟨y, l, ad, ey⟩ := Fd.first G cn hb e
        have hm : (y, l) ∈ qs.filter keep := List.mem_filter.mpr ⟨(mem (y, l)).mpr ad, decide_eq_true ey⟩
        have srt' : (qs.filter keep).Pairwise (fun q r => q.1 ≤ r.1) := srt.filter keep
        have memk : ∀ s ∈ qs.filter keep, Adj rs x s.1 s.2 ∧ s.2 + f s.1 b = f x b := fun s hs => by
          rw [List.mem_filter] at hs
          exact ⟨(mem s).mp hs.1, of_decide_eq_true hs.2⟩
        have all : ∀ z, Tt rs f b x z → ∃ s ∈ qs.filter keep, s.1 = z := fun z ⟨l, a, e⟩ => ⟨(z, l), List.mem_filter.mpr ⟨(mem (z, l)).mpr a, decide_eq_true e⟩, rfl⟩
        revert hE hm srt' memk all
        generalize qs.filter keep = ks
        intro hE hm srt' memk all
        cases ks with
        | nil => cases hm
        | cons s ks =>
          obtain ⟨a1, a2⟩ := memk s List.mem_cons_self
          have least : ∀ z, Tt rs f b x z → s.1 ≤ z := fun z tz => by
            obtain ⟨s', m, rfl⟩ := all z tz
            rcases List.mem_cons.mp m with rfl | m
            · exact Nat.le_refl _
            · exact (List.pairwise_cons.mp srt').1 s' m
          have st : Tt rs f b x s.1 := ⟨s.2, a1, a2⟩
          have hD3 := S3 _ _ hD2
          refine ⟨_, rfl, .inl ⟨rfl, _, .of hD3⟩, _, rfl, E2, _, 0, iv s.1, rfl, rfl, .of hE, atI_nat (j := 0) rfl, D, _, _, rfl, rfl, hD3, small1000 (by rw [List.length_map]; omega), ?_⟩
          refine ⟨f s.1 b, (st.lt G Fd).1, g ++ [s.1], s.1, _, _, rfl, ch.snoc e st least, rfl, same_upd (S02.trans S3) nD, ?_⟩
          rw [upd_same, List.map_append]
          rfl
theorem scWay : FnScope ["web", "a", "b"] ["web", "a", "b"] (defScope sWay) := ⟨rfl, rfl, rfl, by decide +kernel, rfl, by decide +kernel, by decide +kernel⟩
def spWay : Sp := fun vs H Q _ => ∃ (v : Addr) (n : Nat) (ws : List Int) (rs : List Road) (a b : Nat), vs = [.ref v, iv a, iv b] ∧ WebAt H v ws rs ∧ Good n ws rs ∧ a < n ∧ b < n ∧
  ∀ (H' : Hp) (q : Addr) (g : List Nat), Same H H' → GCh (Tt rs (FW n rs) b) b a g b → H' q = some (.tup (g.map iv)) → Q (.ref q) H'
theorem ok_way {f fN fP fT fY fI fS : Addr} {fd fdN fdP fdT fdY fdI fdS : FuncData} (F : Fun K "way" "way" sWay f fd)
    (GN : FnOk P w K mg base CX0 3 fN fdN ["web"] spNeedW) (kN : PySem.W.keepIn K (.ref fN) = true) (bN : Binds K fdN ["web"] []) (gN : mg "need_web" = some (.ref fN))
    (FI : Fun K "is_in" "is_in" sIsIn fI fdI) (bI : Binds K fdI ["value", "least", "most"] []) (gI : mg "is_in" = some (.ref fI))
    (FP : Fun K "need_point" "need_point" sNeedP fP fdP) (bP : Binds K fdP ["web", "point"] []) (gP : mg "need_point" = some (.ref fP))
    (FT : Fun K "table_of" "table_of" sTable fT fdT) (bT : Binds K fdT ["web"] []) (gT : mg "table_of" = some (.ref fT))
    (FS : Fun K "steps_from" "steps_from" sSteps fS fdS) (bS : Binds K fdS ["web", "point"] []) (gS : mg "steps_from" = some (.ref fS))
    (FY : Fun K "way_in" "way_in" sWayIn fY fdY) (bY : Binds K fdY ["web", "rows", "a", "b"] []) (gY : mg "way_in" = some (.ref fY)) (B : Free mg) : FnOk P w K mg base CX0 4 f fd ["web", "a", "b"] spWay := by
  have GT : FnOk P w K mg base CX0 3 fT fdT ["web"] spTable := ok_table FT B
  have GP : FnOk P w K mg base CX0 2 fP fdP ["web", "point"] spNeedP := ok_needp FP FI bI gI B
  have GY : FnOk P w K mg base CX0 3 fY fdY ["web", "rows", "a", "b"] spWayIn := ok_wayin FY FS bS gS B
  refine F.ok scWay (fun vs H Q E h => ?_) (fun cdv A outer s H vs Q E hr h => ?_)
  · obtain ⟨v, n, ws, rs, a, b, rfl, _⟩ := h
    rfl
  · obtain ⟨v, n, ws, rs, a, b, rfl, hW, G, ha, hb, Qk⟩ := h
    refine ⟨_, pss_cons (ps_expr (pe_call GN hr (by rfl) gN kN bN .nil pass0 (pa_cons (pv 0) pa_nil)))
      (pss_cons (ps_expr (pe_call GP (hr.mono (by decide)) (by rfl) gP FP.kp bP .nil pass0 (pa_cons (pv 0) (pa_cons (pv 1) pa_nil))))
      (pss_cons (ps_expr (pe_call GP (hr.mono (by decide)) (by rfl) gP FP.kp bP .nil pass0 (pa_cons (pv 0) (pa_cons (pv 2) pa_nil))))
      (pss_one (ps_ret (pe_call GY hr (by rfl) gY FY.kp bY .nil pass0 (pa_cons (pv 0) (pa_cons (pe_call GT hr (by rfl) gT FT.kp bT .nil pass0 (pa_cons (pv 0) pa_nil)) (pa_cons (pv 1) (pa_cons (pv 2) pa_nil))))))))), ?_⟩
    refine ⟨_, rfl, v, n, ws, rs, rfl, hW, G, fun H1 S1 => ?_⟩
    have hW1 := hW.same S1
    obtain ⟨tw, tr, hv, htw, _⟩ := id hW1
    refine ⟨_, rfl, _, rfl, v, tw, tr, _, a, rfl, hv, htw, by rw [List.length_map, G.wl]; exact ha, ?_⟩
    refine ⟨_, rfl, _, rfl, v, tw, tr, _, b, rfl, hv, htw, by rw [List.length_map, G.wl]; exact hb, ?_⟩
    refine ⟨_, rfl, _, rfl, v, n, ws, rs, rfl, hW1, G, fun H2 p ps S2 T => ?_⟩
    exact ⟨_, rfl, _, rfl, v, p, ps, n, ws, rs, FW n rs, a, b, rfl, hW1.same S2, G, T, FW_dist G, ha, hb, fun H3 q g S3 => Qk H3 q g ((S1.trans S2).trans S3)⟩
/-! ### the law's steps -/
abbrev nLSteps : List Str := ["_law_web_here", "_law_point", "_law_a", "_law_b", "_law_length"]
theorem scLSteps : FnScope nLSteps ["_law_web_here", "_law_point"] (defScope sLSteps) := ⟨rfl, rfl, rfl, by decide +kernel, rfl, by decide +kernel, by decide +kernel⟩
def spLSteps : Sp := fun vs H Q _ => ∃ (v : Addr) (n : Nat) (ws : List Int) (rs : List Road) (u : Nat), vs = [.ref v, iv u] ∧ WebAt H v ws rs ∧ Good n ws rs ∧
  ∀ (H' : Hp) (p : Addr) (us : List Addr), Same H H' → H' p = some (.lst (us.map V.ref)) → PairsAt H' us (lsteps rs u) → Q (.ref p) H'
/-- a pair more -/
theorem pair_app {H0 H1 : Hp} {D p : Addr} {us : List Addr} {ps : List (Nat × Nat)} {q : Nat × Nat} (nD : H0 D = none) (S : Same H0 H1) (hD : H1 D = some (.lst (us.map V.ref))) (hU : PairsAt H1 us ps) (np : H1 p = none) :
    upd H1 p (.tup [iv q.1, iv q.2]) D = some (.lst (us.map V.ref)) ∧ Same H0 (upd (upd H1 p (.tup [iv q.1, iv q.2])) D (.lst (us.map V.ref ++ [.ref p]))) ∧ upd (upd H1 p (.tup [iv q.1, iv q.2])) D (.lst (us.map V.ref ++ [.ref p])) D = some (.lst ((us ++ [p]).map V.ref)) ∧
      PairsAt (upd (upd H1 p (.tup [iv q.1, iv q.2])) D (.lst (us.map V.ref ++ [.ref p]))) (us ++ [p]) (ps ++ [q]) := by
  have hD' := keep_new (u := .tup [iv q.1, iv q.2]) hD np
  refine ⟨hD', same_upd (same_new S np) nD, by rw [upd_same, List.map_append]; rfl, ?_⟩
  have npD : p ≠ D := (ne_of_none hD np).symm
  refine PairsAt.snoc ⟨hU.1, fun j u' q' a b => ?_⟩ (by rw [upd_ne npD, upd_same])
  have h1 := keep_new (u := .tup [iv q.1, iv q.2]) (hU.2 j u' q' a b) np
  rw [upd_ne (ne_of h1 hD' (fun z => nomatch z))]
  exact h1
theorem PairsAt.app {H : Hp} {us : List Addr} {ps : List (Nat × Nat)} (h : PairsAt H us ps) : ∀ {vs : List Addr} {qs : List (Nat × Nat)}, PairsAt H vs qs → PairsAt H (us ++ vs) (ps ++ qs)
  | [], [], _ => by rw [List.append_nil, List.append_nil]; exact h
  | [], _ :: _, h2 => by have := h2.1; simp at this
  | _ :: _, [], h2 => by have := h2.1; simp at this
  | v :: vs, q :: qs, h2 => by
    have := (PairsAt.snoc h (h2.2 0 v q rfl rfl)).app h2.tail
    rw [List.append_assoc, List.append_assoc] at this
    exact this
theorem ok_lsteps {f : Addr} {fd : FuncData} {k : Nat} (F : Fun K "_law_steps" "_law_steps" sLSteps f fd) : FnOk P w K mg base CX0 (k + 1) f fd ["_law_web_here", "_law_point"] spLSteps := by
  refine F.ok scLSteps (fun vs H Q E h => ?_) (fun cdv A outer s H vs Q E hr h => ?_)
  · obtain ⟨v, n, ws, rs, u, rfl, _⟩ := h
    rfl
  · obtain ⟨v, n, ws, rs, u, rfl, ⟨tw, tr, hv, htw, ts, htr, hts, hrt⟩, G, Qk⟩ := h
    refine ⟨_, pss_one (ps_ret (pe_op op_cat
      (pe_lc (own := [("_law_a", 2), ("_law_b", 3), ("_law_length", 4)]) (g := gTup K 3 (gCons (gName 2) (gCons (gName 3) (gCons (gName 4) gNil)))) (by rfl) scLSteps.nd (pi_tup (pe_ix ix_tup (pv 0) pe_int (fun _ _ => rfl))) (blkOk_by (own := [("_law_a", 2), ("_law_b", 3), ("_law_length", 4)]) (N := nLSteps) (sc := defScope sLSteps) (by decide +kernel))
          (fun _ _ _ _ _ => pg_tup (by rfl) (pgs_cons (pg_name (i := 2) scLSteps.nd rfl (Or.inl rfl)) (pgs_cons (pg_name (i := 3) scLSteps.nd rfl (Or.inl rfl)) (pgs_cons (pg_name (i := 4) scLSteps.nd rfl (Or.inl rfl)) pgs_nil))))
          (fun _ _ _ _ _ => pts_one (pt_cmpR op_eq (pv 2) (pv 1) (nomark _)))
          (fun _ _ _ _ _ => pe_tup (pa_cons (pv 3) (pa_cons (pv 4) pa_nil))))
      (pe_lc (own := [("_law_a", 2), ("_law_b", 3), ("_law_length", 4)]) (g := gTup K 3 (gCons (gName 2) (gCons (gName 3) (gCons (gName 4) gNil)))) (by rfl) scLSteps.nd (pi_tup (pe_ix ix_tup (pv 0) pe_int (fun _ _ => rfl))) (blkOk_by (own := [("_law_a", 2), ("_law_b", 3), ("_law_length", 4)]) (N := nLSteps) (sc := defScope sLSteps) (by decide +kernel))
          (fun _ _ _ _ _ => pg_tup (by rfl) (pgs_cons (pg_name (i := 2) scLSteps.nd rfl (Or.inl rfl)) (pgs_cons (pg_name (i := 3) scLSteps.nd rfl (Or.inl rfl)) (pgs_cons (pg_name (i := 4) scLSteps.nd rfl (Or.inl rfl)) pgs_nil))))
          (fun _ _ _ _ _ => pts_one (pt_cmpR op_eq (pv 3) (pv 1) (nomark _)))
          (fun _ _ _ _ _ => pe_tup (pa_cons (pv 2) (pa_cons (pv 4) pa_nil)))))), ?_⟩
    have rl := G.rl
    refine ⟨_, rfl, v, _, 1, _, rfl, rfl, .of hv, atI_nat (j := 1) rfl, tr, rfl, ⟨_, .of htr⟩, fun D nD => lc_tup (K := K) (a := tr) (xs := ts.map V.ref) (fun i H1 => ∃ us : List Addr, Same H H1 ∧ H1 D = some (.lst (us.map V.ref)) ∧ PairsAt H1 us (lsA (rs.take i) u))
      ⟨[], same_new (.refl H) nD, upd_same, .nil⟩ (fun i H1 _ hP => ?_) (fun i x H1 hx hP => ?_) (fun H1 hP => ?_)⟩
    · obtain ⟨_, S, _⟩ := hP
      exact sq_t S htr
    · obtain ⟨t, ht, rfl⟩ := mget hx
      obtain ⟨us, S, hD, hU⟩ := hP
      obtain ⟨r, hr'⟩ := get_of (l := rs) (i := i) (by have := get_lt ht; omega)
      refine ⟨t, _, rfl, sq_t S (hrt i t r ht hr'), rfl, _, _, rfl, _, _, rfl, _, _, rfl, rfl, rfl, ?_⟩
      have e1 : lsA (rs.take (i + 1)) u = lsA (rs.take i) u ++ (if r.1 = u then [(r.2.1, r.2.2)] else []) := by
        unfold lsA
        rw [take_snoc hr', List.filter_append, List.map_append, List.filter_cons, List.filter_nil]
        by_cases z : r.1 = u
        · rw [if_pos (decide_eq_true z), if_pos z]; rfl
        · rw [if_neg (by simpa using z), if_neg z]; rfl
      have hl : (lsA (rs.take i) u).length ≤ 14 := by
        unfold lsA
        rw [List.length_map]
        have := List.length_filter_le (fun r : Road => decide (r.1 = u)) (rs.take i)
        rw [List.length_take] at this
        omega
      refine ⟨_, rfl, _, rfl, rfl, _, rfl, ite2 (fun e => ?_) (fun e => ?_)⟩
      · have ea : r.1 = u := iv_inj (of_decide_eq_true e)
        rw [e1, if_pos ea]
        refine ⟨_, rfl, _, rfl, line_big (by simp), fun p np => ?_⟩
        obtain ⟨a1, a2, a3, a4⟩ := pair_app (q := (r.2.1, r.2.2)) nD S hD hU np
        exact ⟨_, a1, small1000 (by rw [List.length_map, hU.1]; omega), us ++ [p], a2, a3, a4⟩
      · have ea : r.1 ≠ u := fun z => e (by rw [z]; exact decide_eq_true rfl)
        rw [e1, if_neg ea, List.append_nil]
        exact ⟨us, S, hD, hU⟩
    obtain ⟨us, S, hD, hU⟩ := hP
    rw [List.length_map, hts, List.take_length] at hU
    have hl1 : (lsA rs u).length ≤ 14 := by
      unfold lsA
      rw [List.length_map]
      have := List.length_filter_le (fun r : Road => decide (r.1 = u)) rs
      omega
    refine ⟨_, rfl, v, _, 1, _, rfl, rfl, sq_t S hv, atI_nat (j := 1) rfl, tr, rfl, ⟨_, sq_t S htr⟩, fun D2 nD2 => lc_tup (K := K) (a := tr) (xs := ts.map V.ref) (fun i H3 => ∃ us : List Addr, Same H1 H3 ∧ H3 D2 = some (.lst (us.map V.ref)) ∧ PairsAt H3 us (lsB (rs.take i) u))
      ⟨[], same_new (.refl H1) nD2, upd_same, .nil⟩ (fun i H3 _ hP => ?_) (fun i x H3 hx hP => ?_) (fun H3 hP => ?_)⟩
    · obtain ⟨_, S3, _⟩ := hP
      exact sq_t (S.trans S3) htr
    · obtain ⟨t, ht, rfl⟩ := mget hx
      obtain ⟨us, S3, hD3, hU3⟩ := hP
      obtain ⟨r, hr'⟩ := get_of (l := rs) (i := i) (by have := get_lt ht; omega)
      refine ⟨t, _, rfl, sq_t (S.trans S3) (hrt i t r ht hr'), rfl, _, _, rfl, _, _, rfl, _, _, rfl, rfl, rfl, ?_⟩
      have e1 : lsB (rs.take (i + 1)) u = lsB (rs.take i) u ++ (if r.2.1 = u then [(r.1, r.2.2)] else []) := by
        unfold lsB
        rw [take_snoc hr', List.filter_append, List.map_append, List.filter_cons, List.filter_nil]
        by_cases z : r.2.1 = u
        · rw [if_pos (decide_eq_true z), if_pos z]; rfl
        · rw [if_neg (by simpa using z), if_neg z]; rfl
      have hl : (lsB (rs.take i) u).length ≤ 14 := by
        unfold lsB
        rw [List.length_map]
        have := List.length_filter_le (fun r : Road => decide (r.2.1 = u)) (rs.take i)
        rw [List.length_take] at this
        omega
      refine ⟨_, rfl, _, rfl, rfl, _, rfl, ite2 (fun e => ?_) (fun e => ?_)⟩
      · have ea : r.2.1 = u := iv_inj (of_decide_eq_true e)
        rw [e1, if_pos ea]
        refine ⟨_, rfl, _, rfl, line_big (by simp), fun p np => ?_⟩
        obtain ⟨a1, a2, a3, a4⟩ := pair_app (q := (r.1, r.2.2)) nD2 S3 hD3 hU3 np
        exact ⟨_, a1, small1000 (by rw [List.length_map, hU3.1]; omega), us ++ [p], a2, a3, a4⟩
      · have ea : r.2.1 ≠ u := fun z => e (by rw [z]; exact decide_eq_true rfl)
        rw [e1, if_neg ea, List.append_nil]
        exact ⟨us, S3, hD3, hU3⟩
    · obtain ⟨us3, S3, hD3, hU3⟩ := hP
      rw [List.length_map, hts, List.take_length] at hU3
      have hl2 : (lsB rs u).length ≤ 14 := by
        unfold lsB
        rw [List.length_map]
        have := List.length_filter_le (fun r : Road => decide (r.2.1 = u)) rs
        omega
      refine ⟨D, D2, _, _, rfl, rfl, S3 _ _ hD, hD3, line_big (by rw [List.length_map, List.length_map, hU.1, hU3.1]; omega), fun p np => ?_⟩
      have S4 := same_new (o := .lst (us.map V.ref ++ us3.map V.ref)) (.refl H3) np
      refine Qk _ p (us ++ us3) ((S.trans S3).trans S4) (by rw [upd_same, List.map_append]) ?_
      exact ((hU.same S3).same S4).app (hU3.same S4)
end
end Nh
namespace Nh
open PySem PySem.Spec PyProof.Rows L2
def TripsAt (H : Hp) (us : List Addr) (rs : List Road) : Prop := us.length = rs.length ∧ ∀ (i : Nat) (u : Addr) (r : Road), us[i]? = some u → rs[i]? = some r → H u = some (.tup [iv r.1, iv r.2.1, iv r.2.2])
/-- tuples stay through what keeps all but q -/
theorem TripsAt.keep {H H' : Hp} {us : List Addr} {rs : List Road} (h : TripsAt H us rs) (S : ∀ b xs, H b = some (.tup xs) → H' b = some (.tup xs)) : TripsAt H' us rs := ⟨h.1, fun i u r a b => S _ _ (h.2 i u r a b)⟩
theorem TripsAt.nil {H : Hp} : TripsAt H [] [] := ⟨rfl, fun i u q h => by simp at h⟩
theorem TripsAt.snoc {H : Hp} {us : List Addr} {qs : List Road} {u : Addr} {q : Road} (h : TripsAt H us qs) (hu : H u = some (.tup [iv q.1, iv q.2.1, iv q.2.2])) : TripsAt H (us ++ [u]) (qs ++ [q]) := by
  refine ⟨by rw [List.length_append, List.length_append, h.1]; rfl, fun i v p a b => ?_⟩
  by_cases hi : i < us.length
  · rw [List.getElem?_append_left hi] at a
    rw [List.getElem?_append_left (by rw [← h.1]; exact hi)] at b
    exact h.2 i v p a b
  · rw [List.getElem?_append_right (by omega)] at a
    rw [List.getElem?_append_right (by rw [← h.1]; omega), ← h.1] at b
    generalize i - us.length = k at a b
    cases k with
    | zero =>
      have e1 : u = v := Option.some.inj a
      have e2 : q = p := Option.some.inj b
      subst e1 e2
      exact hu
    | succ k => simp at a
/-- tuples that are kept -/
def Tk (H H' : Hp) : Prop := ∀ b xs, H b = some (.tup xs) → H' b = some (.tup xs)
theorem Tk.refl (H : Hp) : Tk H H := fun _ _ h => h
theorem Tk.trans {H H1 H2 : Hp} (a : Tk H H1) (b : Tk H1 H2) : Tk H H2 := fun c o h => b c o (a c o h)
theorem Same.tk {H H' : Hp} (S : Same H H') : Tk H H' := fun b xs h => S b _ h
theorem SameX.tk {q : Addr} {H H' : Hp} {ys : List V} (S : SameX q H H') (hq : H q = some (.lst ys)) : Tk H H' := fun b xs h => S b _ (ne_of h hq (fun z => nomatch z)) h
theorem tk_new {H : Hp} {p : Addr} {o : HO} (np : H p = none) : Tk H (upd H p o) := fun b xs h => keep_new h np
theorem tk_lst {H : Hp} {p : Addr} {o : HO} {ys : List V} (hp : H p = some (.lst ys)) : Tk H (upd H p o) := fun b xs h => by
  rw [upd_ne (ne_of h hp (fun z => nomatch z))]
  exact h
theorem nodup_app {α : Type} {l m : List α} (h1 : l.Nodup) (h2 : m.Nodup) (h : ∀ x ∈ l, x ∉ m) : (l ++ m).Nodup := by
  rw [List.nodup_append]
  exact ⟨h1, h2, fun x hx y hy e => h x hx (by rw [e]; exact hy)⟩
/-- the roads' list beside the row of draws -/
structure Wb (K : PySem.W.Frag) (H Hc : Hp) (q D : Addr) (us : List Addr) (rs : List Road) : Prop where
  sx : SameX q H Hc
  row : RowAt K Hc q
  d0 : H D = none
  dq : D ≠ q
  hd : Hc D = some (.lst (us.map V.ref))
  tr : TripsAt Hc us rs
section
variable {K : PySem.W.Frag} {H Hc Hn : Hp} {q D p : Addr} {us : List Addr} {rs : List Road}
theorem Wb.x (h : Wb K H Hc q D us rs) (s : SameX q Hc Hn) (R : RowAt K Hn q) : Wb K H Hn q D us rs := by
  obtain ⟨ys, hq⟩ := h.row.get
  exact ⟨h.sx.trans s, R, h.d0, h.dq, s _ _ h.dq h.hd, h.tr.keep (s.tk hq)⟩
theorem Wb.new {o : HO} (h : Wb K H Hc q D us rs) (np : Hc p = none) : Wb K H (upd Hc p o) q D us rs := ⟨h.sx.new np, h.row.new np, h.d0, h.dq, keep_new h.hd np, h.tr.keep (tk_new np)⟩
theorem Wb.app {r : Road} (h : Wb K H Hc q D us rs) (hp : Hc p = some (.tup [iv r.1, iv r.2.1, iv r.2.2])) : Wb K H (upd Hc D (.lst (us.map V.ref ++ [.ref p]))) q D (us ++ [p]) (rs ++ [r]) := by
  refine ⟨fun b o n e => ?_, h.row.put h.dq (.inr ⟨_, h.hd⟩), h.d0, h.dq, by rw [upd_same, List.map_append]; rfl, TripsAt.snoc (h.tr.keep (tk_lst h.hd)) (tk_lst h.hd _ _ hp)⟩
  rw [upd_ne (ne_of_none e h.d0)]
  exact h.sx b o n e
end
/-- roads as they are drawn: points below m -/
structure Pre (m : Nat) (rs : List Road) : Prop where
  rd : ∀ r ∈ rs, r.1 < r.2.1 ∧ r.2.1 < m ∧ 1 ≤ r.2.2 ∧ r.2.2 ≤ 100
  nd : (rs.map fun r => (r.1, r.2.1)).Nodup
  tree : ∀ b, 1 ≤ b → b < m → ∃ r ∈ rs, r.2.1 = b
theorem Pre.grow {m a l : Nat} {rs : List Road} (h : Pre m rs) (h1 : 1 ≤ m) (ha : a < m) (hl : 1 ≤ l ∧ l ≤ 100) : Pre (m + 1) (rs ++ [(a, m, l)]) where
  rd := fun r hr => by
    rcases List.mem_append.mp hr with hr | hr
    · have := h.rd r hr; omega
    · rw [List.mem_singleton.mp hr]; simp only; omega
  nd := by
    rw [List.map_append]
    refine nodup_app h.nd (by simp) fun x hx hy => ?_
    rw [List.mem_map] at hx
    obtain ⟨r, hr, rfl⟩ := hx
    have e := List.mem_singleton.mp hy
    have := h.rd r hr
    have e2 : r.2.1 = m := congrArg Prod.snd e
    omega
  tree := fun b h1 h2 => by
    by_cases e : b = m
    · exact ⟨(a, m, l), by simp, e.symm⟩
    · obtain ⟨r, hr, e'⟩ := h.tree b h1 (by omega)
      exact ⟨r, List.mem_append_left _ hr, e'⟩
theorem Pre.more {m a b l : Nat} {rs : List Road} (h : Pre m rs) (hab : a < b) (hb : b < m) (hl : 1 ≤ l ∧ l ≤ 100) (nin : (a, b) ∉ rs.map fun r => (r.1, r.2.1)) : Pre m (rs ++ [(a, b, l)]) where
  rd := fun r hr => by
    rcases List.mem_append.mp hr with hr | hr
    · exact h.rd r hr
    · rw [List.mem_singleton.mp hr]; simp only; omega
  nd := by
    rw [List.map_append]
    refine nodup_app h.nd (by simp) fun x hx hy => ?_
    rw [List.mem_singleton.mp hy] at hx
    exact nin hx
  tree := fun b h1 h2 => by
    obtain ⟨r, hr, e'⟩ := h.tree b h1 h2
    exact ⟨r, List.mem_append_left _ hr, e'⟩
theorem Pre.perm {m : Nat} {rs ss : List Road} (h : Pre m rs) (p : ss.Perm rs) : Pre m ss where
  rd := fun r hr => h.rd r (p.mem_iff.mp hr)
  nd := (p.map _).nodup_iff.mpr h.nd
  tree := fun b h1 h2 => by
    obtain ⟨r, hr, e'⟩ := h.tree b h1 h2
    exact ⟨r, p.mem_iff.mpr hr, e'⟩
theorem range_map_get : ∀ (rs : List Road) (d : Road), (List.range rs.length).map (fun k => rs.getD k d) = rs := fun rs d => by
  apply List.ext_getElem?
  intro i
  by_cases h : i < rs.length
  · rw [gmap (List.getElem?_range h)]
    rw [List.getElem?_eq_getElem h]
    congr 1
    simp [List.getD, List.getElem?_eq_getElem h]
  · rw [List.getElem?_eq_none (by simpa using h), List.getElem?_eq_none (by simpa using h)]
/-- the weights' last touch -/
theorem touch_ok {ws : List Nat} (h : 0 < ws.length) (h100 : ∀ x ∈ ws, x ≤ 100) (c : Nat) (hc : c = if ws.sum = 0 then 1 else 0) : ∃ w0, ws[0]? = some w0 ∧ (∀ x ∈ ws.set 0 (w0 + c), x ≤ 100) ∧ 0 < (ws.set 0 (w0 + c)).sum := by
  cases ws with
  | nil => simp at h
  | cons w ws =>
    refine ⟨w, rfl, ?_, ?_⟩
    · intro x hx
      show x ≤ 100
      have hx : x ∈ (w + c) :: ws := hx
      rcases List.mem_cons.mp hx with rfl | hx
      · have := h100 w List.mem_cons_self
        rw [List.sum_cons] at hc
        split at hc <;> omega
      · exact h100 x (List.mem_cons_of_mem _ hx)
    · show 0 < ((w + c) :: ws).sum
      rw [List.sum_cons] at hc ⊢
      split at hc <;> omega
theorem sum_iv : ∀ ws : List Nat, (ws.map fun k : Nat => (k : Int)).sum = ((ws.sum : Nat) : Int)
  | [] => rfl
  | w :: ws => by
    rw [List.map_cons, List.sum_cons, List.sum_cons, sum_iv ws]
    omega
section
variable {P : Program} {w : World} {K : PySem.W.Frag} {mg : Str → Option Value} {base : Heap}
abbrev nWeb : List Str := ["_law_row", "_law_most", "_law_extra", "_law_count", "_law_big", "_law_roads", "_law_b", "_law_a", "_law_turn", "_law_order_here", "_law_weights", "_law_road", "_law_k"]
theorem scWeb : FnScope nWeb ["_law_row", "_law_most", "_law_extra"] (defScope sWeb) := ⟨rfl, rfl, rfl, by decide +kernel, rfl, by decide +kernel, by decide +kernel⟩
def spWeb (K : PySem.W.Frag) : Sp := fun vs H Q _ => ∃ (q : Addr), vs = [.ref q, .int 8, .int 6] ∧ RowAt K H q ∧ ∀ (H' : Hp) (v : Addr) (n : Nat) (ws : List Int) (rs : List Road), SameX q H H' → RowAt K H' q → WebAt H' v ws rs → Good n ws rs → Q (.ref v) H'
theorem ok_web {f fT fP fO : Addr} {fd fdT fdP fdO : FuncData} (F : Fun K "_law_web" "_law_web" sWeb f fd)
    (FT : Fun K "_law_taken" "_law_taken" sTaken fT fdT) (bT : Binds K fdT ["_law_row", "_law_many"] []) (gT : mg "_law_taken" = some (.ref fT))
    (FP : Fun K "_law_pick" "_law_pick" sPick fP fdP) (bP : Binds K fdP ["_law_row", "_law_things"] []) (gP : mg "_law_pick" = some (.ref fP))
    (FO : Fun K "_law_order" "_law_order" sOrder fO fdO) (bO : Binds K fdO ["_law_row", "_law_many"] []) (gO : mg "_law_order" = some (.ref fO)) (B : Free mg) :
    FnOk P w K mg base CX0 3 f fd ["_law_row", "_law_most", "_law_extra"] (spWeb K) := by
  have GT : FnOk P w K mg base CX0 2 fT fdT ["_law_row", "_law_many"] (spTaken K) := ok_taken FT B
  have GP : FnOk P w K mg base CX0 2 fP fdP ["_law_row", "_law_things"] (spPick K) := ok_pick FP FT bT gT B
  have GO : FnOk P w K mg base CX0 2 fO fdO ["_law_row", "_law_many"] (spOrder K) := ok_order FO FT bT gT B
  refine F.ok scWeb (fun vs H Q E h => ?_) (fun cdv A outer s H vs Q E hr h => ?_)
  · obtain ⟨q, rfl, _⟩ := h
    rfl
  · obtain ⟨q, rfl, R, Qk⟩ := h
    have hu65 : (A.deeper (envOfC "_law_web" (defScope sWeb) s.heap.objs.size f cdv)).units + 65 < cLine := by
      have := hr.un
      omega
    refine ⟨_, pss_cons (ps_asg (pe_tup (pa_cons (pe_op op_add pe_int (pe_call GT hr (by rfl) gT FT.kp bT .nil pass0 (pa_cons (pv 0) (pa_cons (pe_op op_sub (pv 1) pe_int) pa_nil))))
          (pa_cons (pe_call GP hr (by rfl) gP FP.kp bP .nil pass0 (pa_cons (pv 0) (pa_cons (pe_lst (pa_cons pe_int (pa_cons pe_int (pa_cons pe_int pa_nil)))) pa_nil))) (pa_cons (pe_lst pa_nil) pa_nil))))
          (pg_tup (by rfl) (pgs_cons (pg_name (i := 3) scWeb.nd rfl (.inl rfl)) (pgs_cons (pg_name (i := 4) scWeb.nd rfl (.inl rfl)) (pgs_cons (pg_name (i := 5) scWeb.nd rfl (.inr rfl)) pgs_nil)))))
      (pss_cons (ps_for PassesOwn.never rfl (pi_range2 (by rfl) B.range (pa_cons pe_int (pa_cons (pv 3) pa_nil))) (pg_name (i := 6) scWeb.nd rfl (.inl rfl))
        (pss_cons (ps_set (i := 7) scWeb.nd rfl (.inl rfl) (pe_call GP hr (by rfl) gP FP.kp bP .nil pass0 (pa_cons (pv 0) (pa_cons (pe_lst (pa_cons (pe_op op_sub (pv 6) pe_int) (pa_cons (pe_call GT hr (by rfl) gT FT.kp bT .nil pass0 (pa_cons (pv 0) (pa_cons (pv 6) pa_nil))) (pa_cons pe_int pa_nil)))) pa_nil))))
        (pss_one (ps_expr (pe_bm PySem.F.plainAttrs_list PySem.F.slot_list_append PySem.F.type_list_append mt_append (pv 5) (pa_cons (pe_tup (pa_cons (pv 7) (pa_cons (pv 6) (pa_cons (pe_op op_add pe_int (pe_call GT hr (by rfl) gT FT.kp bT .nil pass0 (pa_cons (pv 0) (pa_cons (pe_call GP hr (by rfl) gP FP.kp bP .nil pass0 (pa_cons (pv 0) (pa_cons (pe_lst (pa_cons pe_int (pa_cons (pv 4) pa_nil))) pa_nil))) pa_nil)))) pa_nil)))) pa_nil))))))
      (pss_cons (ps_for PassesOwn.never rfl (pi_range1 (by rfl) B.range (pa_cons (pe_call GT hr (by rfl) gT FT.kp bT .nil pass0 (pa_cons (pv 0) (pa_cons (pe_op op_add (pv 2) pe_int) pa_nil))) pa_nil)) (pg_name (i := 8) scWeb.nd rfl (.inl rfl))
        (pss_cons (ps_set (i := 6) scWeb.nd rfl (.inl rfl) (pe_op op_add pe_int (pe_call GT hr (by rfl) gT FT.kp bT .nil pass0 (pa_cons (pv 0) (pa_cons (pe_op op_sub (pv 3) pe_int) pa_nil)))))
        (pss_cons (ps_set (i := 7) scWeb.nd rfl (.inl rfl) (pe_call GT hr (by rfl) gT FT.kp bT .nil pass0 (pa_cons (pv 0) (pa_cons (pv 6) pa_nil))))
        (pss_one (ps_if (pt_cmpR (op_notInD hu65) (pe_tup (pa_cons (pv 7) (pa_cons (pv 6) pa_nil)))
            (pe_lc (own := [("_law_road", 11)]) (g := gName 11) (by rfl) scWeb.nd (pi_list (pv 5)) (blkOk_by (own := [("_law_road", 11)]) (N := nWeb) (sc := defScope sWeb) (by decide +kernel))
              (fun _ _ _ _ _ => pg_name (i := 11) scWeb.nd rfl (Or.inl rfl))
              (fun _ _ _ _ _ => pts_nil)
              (fun _ _ _ _ _ => pe_slice (r := rSlT K) sl_tup (pv 11) po_none (po_some pe_int))) rfl)
          (pss_one (ps_expr (pe_bm PySem.F.plainAttrs_list PySem.F.slot_list_append PySem.F.type_list_append mt_append (pv 5) (pa_cons (pe_tup (pa_cons (pv 7) (pa_cons (pv 6) (pa_cons (pe_op op_add pe_int (pe_call GT hr (by rfl) gT FT.kp bT .nil pass0 (pa_cons (pv 0) (pa_cons (pv 4) pa_nil)))) pa_nil)))) pa_nil)))) pss_nil)))))
      (pss_cons (ps_set (i := 9) scWeb.nd rfl (.inl rfl) (pe_call GO hr (by rfl) gO FO.kp bO .nil pass0 (pa_cons (pv 0) (pa_cons (pe_callB call_len (by rfl) B.len PySem.boot_len (pa_cons (pv 5) pa_nil)) pa_nil))))
      (pss_cons (ps_setLc (i := 10) (own := [("_law_k", 12)]) (g := gName 12) (by rfl) scWeb.nd rfl rfl (sw_true rfl rfl rfl (by decide +kernel)) (pi_range1 (by rfl) B.range (pa_cons (pv 3) pa_nil)) (blkOk_by (own := [("_law_k", 12)]) (N := nWeb) (sc := defScope sWeb) (by decide +kernel))
          (fun _ _ _ _ _ => pg_name (i := 12) scWeb.nd rfl (Or.inl rfl))
          (fun _ _ _ _ _ => pts_nil)
          (fun _ _ _ _ _ => pe_call GT hr (by rfl) gT FT.kp bT .nil pass0 (pa_cons (pv 0) (pa_cons (pe_call GP hr (by rfl) gP FP.kp bP .nil pass0 (pa_cons (pv 0) (pa_cons (pe_lst (pa_cons pe_int (pa_cons pe_int (pa_cons pe_int pa_nil)))) pa_nil))) pa_nil))))
      (pss_cons (ps_asg (pe_op op_add (pe_ix ix_list (pv 10) pe_int (fun _ _ => rfl)) (pe_ifExp (pt_cmpR op_eq (pe_callB (cr_sum rfl) (by rfl) B.sum bt_sum (pa_cons (pv 10) pa_nil)) pe_int (nomark _)) pe_int pe_int)) (pg_sub (pv 10) pe_int set_list))
      (pss_one (ps_ret (pe_tup (pa_cons (pe_callTy call_tuple_of (by rfl) B.tuple bt_tuple (pa_cons (pv 10) pa_nil)) (pa_cons (pe_callTy call_tuple_of (by rfl) B.tuple bt_tuple (pa_cons
          (pe_lc (own := [("_law_k", 12)]) (g := gName 12) (by rfl) scWeb.nd (pi_list (pv 9)) (blkOk_by (own := [("_law_k", 12)]) (N := nWeb) (sc := defScope sWeb) (by decide +kernel))
              (fun _ _ _ _ _ => pg_name (i := 12) scWeb.nd rfl (Or.inl rfl))
              (fun _ _ _ _ _ => pts_nil)
              (fun _ _ _ _ _ => pe_ix (r := rIxL K) ix_list (pv 5) (pv 12) (fun _ _ => rfl))) pa_nil)) pa_nil)))))))))), ?_⟩
    -- count, big, roads
    refine ⟨_, rfl, _, rfl, 8, 1, rfl, rfl, q, 7, rfl, R, by decide, by decide, fun H1 r hr7 sx1 R1 => ⟨2, r, rfl, rfl, ?_⟩⟩
    refine ⟨_, rfl, line_big (by simp), fun t nt => ⟨q, t, _, rfl, R1.new nt, upd_same, R1.ne nt, by simp, by simp, fun H2 x hx sx2 R2 => ⟨Nat.zero_le _, fun D nD => ⟨line_big (by simp), fun T nT => ⟨T, _, rfl, .of upd_same, rfl, _, _, rfl, _, _, rfl, _, _, rfl, rfl, ?_⟩⟩⟩⟩⟩
    obtain ⟨bg, rfl, hb1, hb2⟩ : ∃ bg : Nat, x = iv bg ∧ 1 ≤ bg ∧ bg ≤ 100 := by
      rcases List.mem_cons.mp hx with rfl | hx
      · exact ⟨2, rfl, by decide, by decide⟩
      · rcases List.mem_cons.mp hx with rfl | hx
        · exact ⟨9, rfl, by decide, by decide⟩
        · rw [List.mem_singleton.mp hx]
          exact ⟨100, rfl, by decide, by decide⟩
    have sx02 : SameX q H H2 := (sx1.new nt).trans sx2
    have d0 : H D = none := by
      obtain ⟨_, hq⟩ := R2.get
      exact sx02.free hq nD
    have W0 : Wb K H (upd H2 D (.lst [])) q D [] [] := ⟨sx02.new nD, R2.new nD, d0, R2.ne nD, upd_same, .nil⟩
    have W1 := W0.new (o := .tup [(fun i j : Int => V.int (i + j)) 2 (r : Int), iv bg, .ref D]) nT
    clear W0 nT nD nt sx1 sx2 sx02 hx
    revert W1
    generalize upd (upd H2 D (.lst [])) T (.tup [(fun i j : Int => V.int (i + j)) 2 (r : Int), iv bg, .ref D]) = H3
    intro W1
    clear R1 R2 H2 H1
    -- the tree
    have cnt : ((2 + (r : Int)) - 1).toNat = 1 + r := by omega
    refine ⟨_, rfl, 1, 2 + (r : Int), rfl, ⟨by omega, by omega, by omega, by omega⟩, for_range (lo := 1) (n := ((2 + (r : Int)) - 1).toNat) (fun i σ H1 => ∃ (x6 x7 : Option V) (us : List Addr) (rs : List Road), σ = [some (.ref q), some (.int 8), some (.int 6), some (iv (2 + r)), some (iv bg), some (.ref D), x6, x7, none, none, none, none, none] ∧ Wb K H H1 q D us rs ∧ Pre (i + 1) rs ∧ rs.length = i)
      ⟨none, none, [], [], rfl, W1, ⟨fun r h => by simp at h, by simp, fun b h1 h2 => by omega⟩, rfl⟩ (fun i σ H1 hi hP => ?_) (fun σ H1 hP => ?_)⟩
    · obtain ⟨x6, x7, us, rs, rfl, W, pre, len⟩ := hP
      rw [cnt] at hi
      refine ⟨_, rfl, _, rfl, _, 1, rfl, rfl, _, rfl, _, rfl, q, 1 + i, rfl, W.row, by omega, by omega, fun H2 r2 hr2 sx2 R2 => ⟨line_big (by simp), fun t nt => ⟨q, t, _, rfl, R2.new nt, upd_same, R2.ne nt, by simp, by simp, fun H4 x hx sx4 R4 => ?_⟩⟩⟩
      obtain ⟨a, rfl, ha⟩ : ∃ a : Nat, x = iv a ∧ a < i + 1 := by
        rcases List.mem_cons.mp hx with rfl | hx
        · refine ⟨i, ?_, by omega⟩
          show V.int (1 + (i : Int) - 1) = V.int (i : Int)
          congr 1
          omega
        · rcases List.mem_cons.mp hx with rfl | hx
          · exact ⟨r2, rfl, by omega⟩
          · rw [List.mem_singleton.mp hx]
            exact ⟨0, rfl, by omega⟩
      have W4 := ((W.x sx2 R2).new (o := .lst [(fun i j : Int => V.int (i - j)) (1 + (i : Int)) 1, iv r2, V.int 0]) nt).x sx4 R4
      clear W sx2 R2 nt sx4 R4 hx
      refine ⟨_, rfl, .inl ⟨rfl, _, .of W4.hd⟩, _, rfl, _, rfl, _, rfl, _, rfl, _, rfl, line_big (by simp), fun t nt => ⟨q, t, _, rfl, W4.row.new nt, upd_same, W4.row.ne nt, by simp, by simp, fun H5 x hx sx5 R5 => ?_⟩⟩
      obtain ⟨m, rfl, hm1, hm2⟩ : ∃ m : Nat, x = iv m ∧ 1 ≤ m ∧ m ≤ 100 := by
        rcases List.mem_cons.mp hx with rfl | hx
        · exact ⟨3, rfl, by decide, by decide⟩
        · rw [List.mem_singleton.mp hx]
          exact ⟨bg, rfl, hb1, hb2⟩
      have W5 := (W4.new (o := .lst [V.int 3, iv bg]) nt).x sx5 R5
      refine ⟨q, m, rfl, R5, hm1, by omega, fun H6 l hl sx6 R6 => ⟨1, l, rfl, rfl, line_big (by simp), fun p np => ?_⟩⟩
      have W6 := W5.x sx6 R6
      have W7 := W6.new (o := .tup [iv a, iv (1 + i), iv (1 + l)]) np
      refine ⟨D, _, _, rfl, rfl, W7.hd, small1000 (by rw [List.length_map, W7.tr.1]; omega), ?_⟩
      refine ⟨_, _, us ++ [p], rs ++ [(a, i + 1, 1 + l)], rfl, W7.app (r := (a, i + 1, 1 + l)) ?_, pre.grow (by omega) ha (by omega), by simp [len]⟩
      rw [upd_same, Nat.add_comm 1 i]
    obtain ⟨x6, x7, us, rs, rfl, W, pre, len⟩ := hP
    rw [cnt] at pre len
    clear W1 H3 cnt
    -- the further roads
    refine ⟨_, rfl, _, rfl, 6, 1, rfl, rfl, q, 7, rfl, W.row, by decide, by decide, fun H2 ex hex sx2 R2 => ⟨ex, rfl, by omega, by omega, for_rangeN (n := ex) (fun i σ H1 => ∃ (x6 x7 x8 : Option V) (us : List Addr) (rs : List Road), σ = [some (.ref q), some (.int 8), some (.int 6), some (iv (2 + r)), some (iv bg), some (.ref D), x6, x7, x8, none, none, none, none] ∧ Wb K H H1 q D us rs ∧ Pre (2 + r) rs ∧ rs.length ≤ 1 + r + i)
      ⟨_, _, _, us, rs, rfl, W.x sx2 R2, (show 1 + r + 1 = 2 + r by omega) ▸ pre, by omega⟩ (fun i σ H3 hi hP => ?_) (fun σ H3 hP => ?_)⟩⟩
    · clear W pre len sx2 R2
      obtain ⟨x6, x7, x8, us, rs, rfl, W, pre, len⟩ := hP
      refine ⟨_, rfl, _, rfl, 2 + (r : Int), 1, rfl, rfl, q, 1 + r, congrArg (fun z => [V.ref q, V.int z]) (show 2 + (r : Int) - 1 = ((1 + r : Nat) : Int) by omega), W.row, by omega, by omega, fun H4 b1 hb1' sx4 R4 => ⟨1, b1, rfl, rfl, ?_⟩⟩
      refine ⟨_, rfl, _, rfl, q, 1 + b1, rfl, R4, by omega, by omega, fun H5 a ha sx5 R5 => ?_⟩
      have W5 := (W.x sx4 R4).x sx5 R5
      clear W sx4 R4 sx5 R5
      refine ⟨_, rfl, _, rfl, line_big (by simp), fun p np => ?_⟩
      have W6 := W5.new (o := .tup [iv a, (fun i j : Int => V.int (i + j)) 1 (b1 : Int)]) np
      have hp6 := upd_same (H := H5) (a := p) (o := .tup [iv a, (fun i j : Int => V.int (i + j)) 1 (b1 : Int)])
      clear W5 np
      revert W6 hp6
      generalize upd H5 p (.tup [iv a, (fun i j : Int => V.int (i + j)) 1 (b1 : Int)]) = H6
      intro W6 hp6
      have hlen : us.length ≤ 1000 := by rw [W6.tr.1]; omega
      refine ⟨_, rfl, D, rfl, ⟨_, .of W6.hd⟩, fun M nM => lc_list (K := K) (a := D) (xs := us.map V.ref) (fun j H7 => ∃ zs : List Addr, Same H6 H7 ∧ H7 M = some (.lst (zs.map V.ref)) ∧ PairsAt H7 zs ((rs.take j).map fun r => (r.1, r.2.1)))
        ⟨[], same_new (.refl H6) nM, upd_same, .nil⟩ (fun j H7 _ hP => ?_) (fun j x H7 hx hP => ?_) (fun H7 hP => ?_)⟩
      · obtain ⟨_, S, _⟩ := hP
        exact .of (S _ _ W6.hd)
      · obtain ⟨u, hu, rfl⟩ := mget hx
        obtain ⟨zs, S, hM, hZ⟩ := hP
        obtain ⟨rr, hrr⟩ := get_of (l := rs) (i := j) (by have := get_lt hu; rw [W6.tr.1] at this; exact this)
        have hu7 := S _ _ (W6.tr.2 j u rr hu hrr)
        refine ⟨rfl, _, rfl, 2, rfl, u, _, rfl, .of hu7, (show ¬ (0 = 0 ∧ 2 = 3) by decide), fun p2 np2 => ?_⟩
        obtain ⟨a1, a2, a3, a4⟩ := pair_app (q := (rr.1, rr.2.1)) nM S hM hZ np2
        refine ⟨_, a1, small1000 (by rw [List.length_map, hZ.1, List.length_map, List.length_take]; omega), zs ++ [p2], a2, a3, ?_⟩
        rw [take_snoc hrr, List.map_append]
        exact a4
      obtain ⟨zs, S, hM, hZ⟩ := hP
      rw [List.length_map, W6.tr.1, List.take_length] at hZ
      obtain ⟨ys6, hq6⟩ := W6.row.get
      have W7 : Wb K H H7 q D us rs := W6.x (fun b o n e => S b o e) (by
        obtain ⟨sc, ns, i, st, c, h1, h2, h3, h4⟩ := W6.row
        exact ⟨sc, ns, i, st, c, h1.go (fun b o u e => S _ _ e), h2, S _ _ h3, h4⟩)
      refine ⟨pd (a, 1 + b1), (rs.map fun r => (r.1, r.2.1)).map pd, .tup (.of (S _ _ hp6)) (.cons (.int _) (.cons (.int _) .nil)), .lst (.of hM) hZ.dp, shaped_pd _, shaped_pairs _, _, congrArg (fun z => V.bl (!z)) (any_pairs _ _), ?_⟩
      by_cases nin : (a, 1 + b1) ∈ rs.map fun r => (r.1, r.2.1)
      · rw [decide_eq_true nin]
        exact ⟨_, _, _, us, rs, rfl, W7, pre, by omega⟩
      · rw [decide_eq_false nin]
        refine ⟨_, rfl, .inl ⟨rfl, _, .of W7.hd⟩, _, rfl, _, rfl, _, rfl, _, rfl, q, bg, rfl, W7.row, hb1, by omega, fun H8 l hl sx8 R8 => ⟨1, l, rfl, rfl, line_big (by simp), fun p2 np2 => ?_⟩⟩
        have W8 := (W7.x sx8 R8).new (o := .tup [iv a, iv (1 + b1), iv (1 + l)]) np2
        refine ⟨D, _, _, rfl, rfl, W8.hd, small1000 (by rw [List.length_map, W8.tr.1]; omega), ?_⟩
        exact ⟨_, _, _, us ++ [p2], rs ++ [(a, 1 + b1, 1 + l)], rfl, W8.app (r := (a, 1 + b1, 1 + l)) upd_same, pre.more ha (by omega) (by omega) nin, by rw [List.length_append]; simp only [List.length_cons, List.length_nil]; omega⟩
    clear W pre len sx2 R2
    obtain ⟨x6, x7, x8, us, rs, rfl, W, pre, len⟩ := hP
    -- the order
    have rlen : rs.length ≤ 13 := by omega
    refine ⟨_, rfl, _, rfl, _, us.length, rfl, .inl ⟨_, .of W.hd, by rw [List.length_map]⟩, q, us.length, rfl, W.row, by rw [W.tr.1]; omega, fun H4 po l pm sx4 R4 np4 npq hpo => ?_⟩
    have npD : po ≠ D := fun e => by rw [e, W.hd] at np4; cases np4
    have po0 : H po = none := by
      cases z : H po with
      | none => rfl
      | some o => rw [W.sx po o npq z] at np4; cases np4
    have W4 := W.x sx4 R4
    rw [W.tr.1] at pm
    clear W sx4 R4 np4
    -- the weights
    refine ⟨_, rfl, 2 + (r : Int), rfl, by omega, by omega, fun E nE => lc_rangeN (n := 2 + r) (fun j H5 => ∃ wl : List Nat, SameX q H4 H5 ∧ RowAt K H5 q ∧ H5 E = some (.lst (wl.map iv)) ∧ wl.length = j ∧ ∀ x ∈ wl, x ≤ 100)
      ⟨[], (SameX.refl q H4).new nE, W4.row.new nE, upd_same, rfl, fun x h => by simp at h⟩ (fun j H5 hj hP => ?_) (fun H5 hP => ?_)⟩
    · obtain ⟨wl, sx5, R5, hE, wlen, w100⟩ := hP
      have nEq : E ≠ q := W4.row.ne nE
      refine ⟨rfl, _, rfl, _, rfl, line_big (by simp), fun t nt => ⟨q, t, _, rfl, R5.new nt, upd_same, R5.ne nt, by simp, by simp, fun H6 x hx sx6 R6 => ?_⟩⟩
      obtain ⟨m, rfl, hm1, hm2⟩ : ∃ m : Nat, x = iv m ∧ 1 ≤ m ∧ m ≤ 101 := by
        rcases List.mem_cons.mp hx with rfl | hx
        · exact ⟨2, rfl, by decide, by decide⟩
        · rcases List.mem_cons.mp hx with rfl | hx
          · exact ⟨6, rfl, by decide, by decide⟩
          · rw [List.mem_singleton.mp hx]
            exact ⟨101, rfl, by decide, by decide⟩
      refine ⟨q, m, rfl, R6, hm1, by omega, fun H7 y hy sx7 R7 => ?_⟩
      have sx57 : SameX q H5 H7 := (((SameX.refl q H5).new nt).trans sx6).trans sx7
      have hE7 := sx57 _ _ nEq hE
      refine ⟨_, hE7, small1000 (by rw [List.length_map]; omega), wl ++ [y], fun b o n e => ?_, R7.put nEq (.inr ⟨_, hE7⟩), by rw [upd_same, List.map_append]; rfl, by simp [wlen], fun x m => ?_⟩
      · rw [upd_ne (ne_of_none e nE)]
        exact sx57 b o n (sx5 b o n e)
      · rcases List.mem_append.mp m with m | m
        · exact w100 x m
        · rw [List.mem_singleton.mp m]; omega
    obtain ⟨wl, sx5, R5, hE, wlen, w100⟩ := hP
    have nEq : E ≠ q := W4.row.ne nE
    have W5 := W4.x sx5 R5
    have hpo5 := sx5 _ _ npq hpo
    have nED : E ≠ D := fun e => by rw [e, W4.hd] at nE; cases nE
    have nEp : E ≠ po := fun e => by rw [e, hpo] at nE; cases nE
    have E0 : H E = none := by
      cases z : H E with
      | none => rfl
      | some o => rw [W4.sx E o nEq z] at nE; cases nE
    obtain ⟨c, hc⟩ : ∃ c : Nat, c = if wl.sum = 0 then 1 else 0 := ⟨_, rfl⟩
    obtain ⟨w0, g0, t100, tpos⟩ := touch_ok (by omega) w100 c hc
    have sw : ∀ (σ : L2.St) (H1 : Hp) (Q1 : VK), tC (iv c) σ H1 Q1 → (if decide (V.int (wl.map fun k : Nat => (k : Int)).sum = V.int 0) = true then tC (V.int 1) σ H1 Q1 else tC (V.int 0) σ H1 Q1) := fun σ H1 Q1 q1 => by
      rw [sum_iv]
      by_cases z : wl.sum = 0
      · rw [if_pos z] at hc
        subst hc
        rw [if_pos (decide_eq_true (by rw [z]; rfl))]
        exact q1
      · rw [if_neg z] at hc
        subst hc
        rw [if_neg]
        · exact q1
        · intro y
          have := V.int.inj (of_decide_eq_true y)
          omega
    refine ⟨_, rfl, E, _, 0, iv w0, rfl, rfl, .of hE, atI_nat (j := 0) (gmap g0), _, rfl, E, (wl.map fun k : Nat => (k : Int)), rfl, .of (by rw [hE, map_iv]), rfl, _, rfl, ?_⟩
    refine sw _ _ _ ⟨w0, c, rfl, rfl, _, rfl, E, _, 0, 0, rfl, rfl, hE, ixN_nat (j := 0) (by rw [List.length_map]; omega), ?_⟩
    have hE6 : upd H5 E (.lst ((wl.map iv).set 0 ((fun i j : Int => V.int (i + j)) (w0 : Int) (c : Int)))) E = some (.lst ((wl.set 0 (w0 + c)).map iv)) := by
      rw [upd_same, List.map_set]
      rfl
    have W6 : Wb K H (upd H5 E (.lst ((wl.map iv).set 0 ((fun i j : Int => V.int (i + j)) (w0 : Int) (c : Int))))) q D us rs := by
      refine ⟨fun b o n e => ?_, W5.row.put nEq (.inr ⟨_, hE⟩), W5.d0, W5.dq, ?_, W5.tr.keep (tk_lst hE)⟩
      · rw [upd_ne (ne_of_none e E0)]
        exact W5.sx b o n e
      · rw [upd_ne nED.symm]
        exact W5.hd
    have hpo6 : upd H5 E (.lst ((wl.map iv).set 0 ((fun i j : Int => V.int (i + j)) (w0 : Int) (c : Int)))) po = some (.lst (l.map iv)) := by
      rw [upd_ne nEp.symm]
      exact hpo5
    revert hE6 W6 hpo6
    generalize upd H5 E (.lst ((wl.map iv).set 0 ((fun i j : Int => V.int (i + j)) (w0 : Int) (c : Int)))) = H6
    intro hE6 W6 hpo6
    clear sw hE W5 hpo5 sx5 R5 hpo W4
    -- the web
    refine ⟨_, rfl, E, _, rfl, .inl ⟨.of hE6, fun tw ntw => ?_⟩⟩
    have W7 := W6.new (o := .tup ((wl.set 0 (w0 + c)).map iv)) ntw
    have htw := upd_same (H := H6) (a := tw) (o := .tup ((wl.set 0 (w0 + c)).map iv))
    have hpo7 := keep_new (u := .tup ((wl.set 0 (w0 + c)).map iv)) hpo6 ntw
    revert W7 htw hpo7
    generalize upd H6 tw (.tup ((wl.set 0 (w0 + c)).map iv)) = H7
    intro W7 htw hpo7
    clear hE6 W6 hpo6 ntw H6
    let pk : Nat → Road := fun k => rs.getD k (0, 0, 0)
    have llen : l.length ≤ 13 := by rw [pm.length_eq, List.length_range]; exact rlen
    refine ⟨_, rfl, po, rfl, ⟨_, .of hpo7⟩, fun M nM => lc_list (K := K) (a := po) (xs := l.map iv) (fun j H8 => ∃ zs : List Addr, Same H7 H8 ∧ H8 M = some (.lst (zs.map V.ref)) ∧ TripsAt H8 zs ((l.take j).map pk))
      ⟨[], same_new (.refl H7) nM, upd_same, .nil⟩ (fun j H8 _ hP => ?_) (fun j x H8 hx hP => ?_) (fun H8 hP => ?_)⟩
    · obtain ⟨_, S, _⟩ := hP
      exact .of (S _ _ hpo7)
    · obtain ⟨k, hk, rfl⟩ := mget hx
      obtain ⟨zs, S, hM, hZ⟩ := hP
      have hkr : k < rs.length := List.mem_range.mp (pm.mem_iff.mp (get_mem hk))
      obtain ⟨u, hu⟩ := get_of (l := us) (i := k) (by rw [W7.tr.1]; exact hkr)
      have hr' : rs[k]? = some (pk k) := by
        show _ = some (rs.getD k (0, 0, 0))
        simp [List.getD, List.getElem?_eq_getElem hkr]
      have hu8 := S _ _ (W7.tr.2 k u _ hu hr')
      refine ⟨rfl, _, rfl, _, rfl, D, _, k, .ref u, rfl, rfl, .of (S _ _ W7.hd), atI_nat (gmap hu), _, hM, small1000 (by rw [List.length_map, hZ.1, List.length_map, List.length_take]; omega), zs ++ [u], same_upd S nM, by rw [upd_same, List.map_append]; rfl, ?_⟩
      rw [take_snoc hk, List.map_append]
      exact TripsAt.snoc (hZ.keep (tk_lst hM)) (tk_lst hM _ _ hu8)
    obtain ⟨zs, S, hM, hZ⟩ := hP
    rw [List.length_map, List.take_length] at hZ
    refine ⟨M, _, rfl, .inl ⟨.of hM, fun tr ntr => ⟨line_big (by simp), fun v nv => ?_⟩⟩⟩
    have S9 := same_new (o := .tup [.ref tw, .ref tr]) (same_new (o := .tup (zs.map V.ref)) S ntr) nv
    have htr := keep_new (u := .tup [.ref tw, .ref tr]) (upd_same (H := H8) (a := tr) (o := .tup (zs.map V.ref))) nv
    have hZ9 := hZ.keep ((tk_new (o := .tup (zs.map V.ref)) ntr).trans (tk_new (o := .tup [.ref tw, .ref tr]) nv))
    have hv := upd_same (H := upd H8 tr (.tup (zs.map V.ref))) (a := v) (o := .tup [.ref tw, .ref tr])
    have prm : (l.map pk).Perm rs := by
      have := pm.map pk
      rw [range_map_get rs (0, 0, 0)] at this
      exact this
    refine Qk _ v (2 + r) ((wl.set 0 (w0 + c)).map fun k : Nat => (k : Int)) (l.map pk) (fun b o n e => S9 b o (W7.sx b o n e)) ?_ ⟨tw, tr, hv, by rw [S9 _ _ htw, map_iv], zs, htr, hZ9.1, hZ9.2⟩ ?_
    · obtain ⟨sc, ns, i, st, cc, h1, h2, h3, h4⟩ := W7.row
      exact ⟨sc, ns, i, st, cc, h1.go (fun b o u e => S9 _ _ e), h2, S9 _ _ h3, h4⟩
    · have pre' := pre.perm prm
      refine ⟨by omega, by omega, by simp [wlen], fun x m => ?_, ?_, by rw [prm.length_eq]; omega, pre'.rd, pre'.nd, pre'.tree⟩
      · obtain ⟨y, hy, rfl⟩ := List.mem_map.mp m
        have := t100 y hy
        omega
      · rw [sum_iv]
        omega
end
end Nh
namespace Nh
open PySem PySem.Spec PyProof.Rows L2
/-! ### ways on the heap -/
def WayAt (H : Hp) (y : V) (w : Way) : Prop := ∃ t u, y = .ref t ∧ H t = some (.tup [.ref u, iv w.2]) ∧ H u = some (.tup (w.1.map iv))
def WaysV (H : Hp) (ys : List V) (W : List Way) : Prop := ys.length = W.length ∧ ∀ (i : Nat) (y : V) (w : Way), ys[i]? = some y → W[i]? = some w → WayAt H y w
theorem WaysV.same {H H' : Hp} {ys : List V} {W : List Way} (S : Same H H') (h : WaysV H ys W) : WaysV H' ys W := ⟨h.1, fun i y w a b => by
  obtain ⟨t, u, e, h1, h2⟩ := h.2 i y w a b
  exact ⟨t, u, e, S _ _ h1, S _ _ h2⟩⟩
theorem WaysV.nil {H : Hp} : WaysV H [] [] := ⟨rfl, fun i y w h => by simp at h⟩
theorem WaysV.app {H : Hp} {ys zs : List V} {W Z : List Way} (h : WaysV H ys W) (k : WaysV H zs Z) : WaysV H (ys ++ zs) (W ++ Z) := by
  refine ⟨by rw [List.length_append, List.length_append, h.1, k.1], fun i y w a b => ?_⟩
  by_cases hi : i < ys.length
  · rw [List.getElem?_append_left hi] at a
    rw [List.getElem?_append_left (by rw [← h.1]; exact hi)] at b
    exact h.2 i y w a b
  · rw [List.getElem?_append_right (by omega)] at a
    rw [List.getElem?_append_right (by rw [← h.1]; omega), ← h.1] at b
    exact k.2 _ y w a b
theorem WaysV.one {H : Hp} {y : V} {w : Way} (h : WayAt H y w) : WaysV H [y] [w] := ⟨rfl, fun i z v a b => by
  cases i with
  | zero =>
    have e1 : y = z := Option.some.inj a
    have e2 : w = v := Option.some.inj b
    subst e1 e2
    exact h
  | succ i => simp at a⟩
/-- a store into a list keeps them -/
theorem WaysV.put {H : Hp} {ys : List V} {W : List Way} {D : Addr} {xs : List V} {o : HO} (h : WaysV H ys W) (hD : H D = some (.lst xs)) : WaysV (upd H D o) ys W := ⟨h.1, fun i y w a b => by
  obtain ⟨t, u, e, h1, h2⟩ := h.2 i y w a b
  exact ⟨t, u, e, tk_lst hD _ _ h1, tk_lst hD _ _ h2⟩⟩
def DueV (H : Hp) (dv : V) : Option (List Nat) → Prop
  | none => dv = .non
  | some q => ∃ u, dv = .ref u ∧ H u = some (.tup (q.map iv))
theorem DueV.same {H H' : Hp} {dv : V} (S : Same H H') : ∀ {d : Option (List Nat)}, DueV H dv d → DueV H' dv d
  | none, h => h
  | some q, ⟨u, e, h⟩ => ⟨u, e, S _ _ h⟩
theorem lex_lx : ∀ p q : List Nat, HT.lexLt (p.map fun k : Nat => (k : Int)) (q.map fun k : Nat => (k : Int)) = lx p q
  | [], [] => rfl
  | [], _ :: _ => rfl
  | _ :: _, [] => rfl
  | x :: p, y :: q => by
    show (if (x : Int) = (y : Int) then HT.lexLt (p.map fun k : Nat => (k : Int)) (q.map fun k : Nat => (k : Int)) else decide ((x : Int) < (y : Int))) = (if x = y then lx p q else decide (x < y))
    rw [lex_lx p q]
    by_cases e : x = y
    · rw [if_pos e, if_pos (by omega)]
    · rw [if_neg e, if_neg (by omega)]
      by_cases z : x < y
      · rw [decide_eq_true z, decide_eq_true (by omega)]
      · rw [decide_eq_false z, decide_eq_false (by omega)]
theorem al_tup {H : Hp} {p q : Addr} {l : List Nat} (hp : H p = some (.tup (l.map iv))) (hq : H q = some (.tup (l.map iv))) (h : l.length ≤ 1000) : Al 1 H (.ref p) (.ref q) := by
  refine ⟨p, q, _, _, rfl, rfl, hp, hq, rfl, by rw [List.length_map]; exact h, fun i u v a b => ?_⟩
  rw [a] at b
  cases b
  obtain ⟨k, _, rfl⟩ := mget a
  exact ⟨_, rfl, rfl⟩
theorem al_tab {H : Hp} {p q : Addr} {n : Nat} {f g : Tab} (h1 : TupTab H p n f) (h2 : TupTab H q n g) (hn : n ≤ 8) (e : ∀ i j, i < n → j < n → f i j = g i j) : Al 2 H (.ref p) (.ref q) := by
  obtain ⟨ts, a1, a2, a3⟩ := h1
  obtain ⟨us, b1, b2, b3⟩ := h2
  refine ⟨p, q, _, _, rfl, rfl, a1, b1, by rw [List.length_map, List.length_map, a2, b2], by rw [List.length_map]; omega, fun i u v a b => ?_⟩
  obtain ⟨t, ht, rfl⟩ := mget a
  obtain ⟨t', ht', rfl⟩ := mget b
  have hi : i < n := by have := get_lt ht; omega
  refine ⟨t, t', _, _, rfl, rfl, a3 i t ht, b3 i t' ht', by rw [rowV_len, rowV_len], by rw [rowV_len]; omega, fun j u v a b => ?_⟩
  obtain ⟨k, hk, rfl⟩ := mget (f := fun y => iv (f i y)) a
  obtain ⟨k', hk', rfl⟩ := mget (f := fun y => iv (g i y)) b
  rw [hk] at hk'
  cases hk'
  have : k < n := List.mem_range.mp (get_mem hk)
  exact ⟨_, rfl, by rw [e i k hi this]⟩
theorem due1_none {g : Tab} {a b : Nat} {w : Way} (c1 : lastD w.1 = b) (c2 : w.2 = g a b) : due1 g a b none w = some w.1 := by
  unfold due1
  rw [if_pos ⟨c1, c2⟩]
theorem due1_some {g : Tab} {a b : Nat} {w : Way} {q : List Nat} (c1 : lastD w.1 = b) (c2 : w.2 = g a b) : due1 g a b (some q) w = if lx w.1 q = true then some w.1 else some q := by
  unfold due1
  rw [if_pos ⟨c1, c2⟩]
theorem RowAt.same {K : PySem.W.Frag} {H H' : Hp} {q : Addr} (S : Same H H') (h : RowAt K H q) : RowAt K H' q := by
  obtain ⟨sc, ns, i, st, c, h1, h2, h3, h4⟩ := h
  exact ⟨sc, ns, i, st, c, h1.go (fun b o u e => S _ _ e), h2, S _ _ h3, h4⟩
theorem WebAt.tk {H H' : Hp} {v : Addr} {ws : List Int} {rs : List Road} (S : Tk H H') (h : WebAt H v ws rs) : WebAt H' v ws rs := by
  obtain ⟨tw, tr, h1, h2, ts, h3, h4, h5⟩ := h
  exact ⟨tw, tr, S _ _ h1, S _ _ h2, ts, S _ _ h3, h4, fun i t r a b => S _ _ (h5 i t r a b)⟩
theorem TabAt.x {K : PySem.W.Frag} {H H' : Hp} {p q : Addr} {ps : List Addr} {n : Nat} {g : Tab} (h : TabAt H p ps n g) (n2 : 2 ≤ n) (R : RowAt K H q) (S : SameX q H H') : TabAt H' p ps n g := by
  obtain ⟨sc, ns, i, st, c, _, _, hq, _⟩ := R
  have np : p ≠ q := ne_of h.hd hq (fun z => by
    have l := h.len
    cases ps with
    | nil => simp at l; omega
    | cons a ps =>
      cases ps with
      | nil => simp at l; omega
      | cons b ps => simp at z)
  refine ⟨S _ _ np h.hd, h.len, h.nd, h.np, fun i a e => ?_⟩
  have hr := h.row i a e
  refine S _ _ (ne_of hr hq (fun z => ?_)) hr
  unfold rowV at z
  cases n with
  | zero => omega
  | succ n => rw [List.range_succ_eq_map] at z; simp at z
section
variable {P : Program} {w : World} {K : PySem.W.Frag} {mg : Str → Option Value} {base : Heap}
abbrev nLaw : List Str := ["_law_script", "_law_row", "_law_web_here", "_law_rows_here", "_law_count", "_law_a", "_law_b", "_law_ways", "_law_due", "_law_turn", "_law_more", "_law_nodes", "_law_far", "_law_line", "_law_y", "_law_length"]
theorem scLaw : FnScope nLaw ["_law_script"] (defScope sLaw) := ⟨rfl, rfl, rfl, by decide +kernel, rfl, by decide +kernel, by decide +kernel⟩
def spLaw (K : PySem.W.Frag) : Sp := fun vs H Q _ => ∃ (a : Addr) (ns : List Int), vs = [.ref a] ∧ Scr K H a ns ∧ ns.length ≤ 63 ∧ ∀ H', Q (.bl true) H'
/-- what the law's def leans on -/
structure Lean5 (P : Program) (w : World) (K : PySem.W.Frag) (mg : Str → Option Value) (base : Heap) : Prop where
  web : ∃ f fd, FnOk P w K mg base CX0 3 f fd ["_law_row", "_law_most", "_law_extra"] (spWeb K) ∧ PySem.W.keepIn K (.ref f) = true ∧ Binds K fd ["_law_row", "_law_most", "_law_extra"] [] ∧ mg "_law_web" = some (.ref f)
  rows : ∃ f fd, FnOk P w K mg base CX0 4 f fd ["_law_web_here"] spRows ∧ PySem.W.keepIn K (.ref f) = true ∧ Binds K fd ["_law_web_here"] [] ∧ mg "_law_rows" = some (.ref f)
  dist : ∃ f fd, FnOk P w K mg base CX0 4 f fd ["web"] spDist ∧ PySem.W.keepIn K (.ref f) = true ∧ Binds K fd ["web"] [] ∧ mg "distances" = some (.ref f)
  way : ∃ f fd, FnOk P w K mg base CX0 4 f fd ["web", "a", "b"] spWay ∧ PySem.W.keepIn K (.ref f) = true ∧ Binds K fd ["web", "a", "b"] [] ∧ mg "way" = some (.ref f)
  taken : ∃ f fd, FnOk P w K mg base CX0 4 f fd ["_law_row", "_law_many"] (spTaken K) ∧ PySem.W.keepIn K (.ref f) = true ∧ Binds K fd ["_law_row", "_law_many"] [] ∧ mg "_law_taken" = some (.ref f)
  steps : ∃ f fd, FnOk P w K mg base CX0 4 f fd ["_law_web_here", "_law_point"] spLSteps ∧ PySem.W.keepIn K (.ref f) = true ∧ Binds K fd ["_law_web_here", "_law_point"] [] ∧ mg "_law_steps" = some (.ref f)
  alike : ∃ f fd, FnOk P w K mg base CX0 3 f fd ["_law_found", "_law_due"] (spAlike 2) ∧ FnOk P w K mg base CX0 2 f fd ["_law_found", "_law_due"] (spAlike 1) ∧ PySem.W.keepIn K (.ref f) = true ∧ Binds K fd ["_law_found", "_law_due"] [] ∧ mg "_law_alike" = some (.ref f)
theorem ok_law {f : Addr} {fd : FuncData} (F : Fun K "law" "law" sLaw f fd) (L : Lean5 P w K mg base) (B : Free mg) : FnOk P w K mg base CX0 5 f fd ["_law_script"] (spLaw K) := by
  obtain ⟨fW, fdW, GW, kW, bW, gW⟩ := L.web
  obtain ⟨fR, fdR, GR, kR, bR, gR⟩ := L.rows
  obtain ⟨fD, fdD, GD, kD, bD, gD⟩ := L.dist
  obtain ⟨fY, fdY, GY, kY, bY, gY⟩ := L.way
  obtain ⟨fT, fdT, GT, kT, bT, gT⟩ := L.taken
  obtain ⟨fS, fdS, GS, kS, bS, gS⟩ := L.steps
  obtain ⟨fA, fdA, GA2, GA1, kA, bA, gA⟩ := L.alike
  refine F.ok scLaw (fun vs H Q E h => ?_) (fun cdv A outer s H vs Q E hr h => ?_)
  · obtain ⟨a, ns, rfl, _⟩ := h
    rfl
  · obtain ⟨sc, ns, rfl, hS, hlen, Qk⟩ := h
    refine ⟨_, pss_cons (ps_set (i := 1) scLaw.nd rfl (.inl rfl) (pe_lst (pa_cons (pv 0) (pa_cons pe_int (pa_cons pe_int (pa_cons pe_int pa_nil))))))
      (pss_cons (ps_set (i := 2) scLaw.nd rfl (.inl rfl) (pe_call GW (hr.mono (by decide)) (by rfl) gW kW bW .nil pass0 (pa_cons (pv 1) (pa_cons pe_int (pa_cons pe_int pa_nil)))))
      (pss_cons (ps_asg (pe_tup (pa_cons (pe_call GR hr (by rfl) gR kR bR .nil pass0 (pa_cons (pv 2) pa_nil)) (pa_cons (pe_callB call_len (by rfl) B.len PySem.boot_len (pa_cons (pe_ix ix_tup (pv 2) pe_int (fun _ _ => rfl)) pa_nil)) pa_nil)))
        (pg_tup (by rfl) (pgs_cons (pg_name (i := 3) scLaw.nd rfl (.inr rfl)) (pgs_cons (pg_name (i := 4) scLaw.nd rfl (.inl rfl)) pgs_nil))))
      (pss_cons (ps_if (pt_not (pt_val (pe_call GA2 (hr.mono (by decide)) (by rfl) gA kA bA .nil pass0 (pa_cons (pe_call GD hr (by rfl) gD kD bD .nil pass0 (pa_cons (pv 2) pa_nil)) (pa_cons (pe_callTy call_tuple_of (by rfl) B.tuple bt_tuple (pa_cons
          (pe_lc (own := [("_law_line", 13)]) (g := gName 13) (by rfl) scLaw.nd (pi_list (pv 3)) (blkOk_by (own := [("_law_line", 13)]) (N := nLaw) (sc := defScope sLaw) (by decide +kernel))
            (fun _ _ _ _ _ => pg_name (i := 13) scLaw.nd rfl (Or.inl rfl))
            (fun _ _ _ _ _ => pts_nil)
            (fun _ _ _ _ _ => pe_callTy (r := rTupOf K) call_tuple_of (by rfl) B.tuple bt_tuple (pa_cons (pv 13) pa_nil))) pa_nil)) pa_nil)))))
        (pss_one ps_never) pss_nil)
      (pss_cons (ps_asg (pe_tup (pa_cons (pe_call GT hr (by rfl) gT kT bT .nil pass0 (pa_cons (pv 1) (pa_cons (pv 4) pa_nil))) (pa_cons (pe_call GT hr (by rfl) gT kT bT .nil pass0 (pa_cons (pv 1) (pa_cons (pv 4) pa_nil))) pa_nil)))
        (pg_tup (by rfl) (pgs_cons (pg_name (i := 5) scLaw.nd rfl (.inr rfl)) (pgs_cons (pg_name (i := 6) scLaw.nd rfl (.inr rfl)) pgs_nil))))
      (pss_cons (ps_par (i := 7) (j := 8) (by rfl) scLaw.nd rfl rfl (by decide) rfl rfl (pa_cons (pe_lst (pa_cons (pe_tup (pa_cons (pe_tup (pa_cons (pv 5) pa_nil)) (pa_cons pe_int pa_nil))) pa_nil)) (pa_cons pe_non pa_nil)) (by rfl))
      (pss_cons (ps_for PassesOwn.never rfl (pi_range1 (by rfl) B.range (pa_cons (pv 4) pa_nil)) (pg_name (i := 9) scLaw.nd rfl (.inl rfl))
        (pss_cons (ps_set (i := 10) scLaw.nd rfl (.inl rfl) (pe_lst pa_nil))
        (pss_cons (ps_for PassesOwn.never rfl (pi_list (pv 7)) (pg_tup (by rfl) (pgs_cons (pg_name (i := 11) scLaw.nd rfl (.inr rfl)) (pgs_cons (pg_name (i := 12) scLaw.nd rfl (.inr rfl)) pgs_nil)))
          (C8.pss_cut (ps_if (PW.pt (pw_and (pt_cmpR op_eq (pe_ix ix_tup (pv 11) (pe_un un_neg pe_int) (fun _ _ => rfl)) (pv 6) (nomark _)) (pw_and1 (pt_cmpR op_eq (pv 12) (pe_ix ix_list (pe_ix ix_list (pv 3) (pv 5) (fun _ _ => rfl)) (pv 6) (fun _ _ => rfl)) (nomark _)))))
            (pss_one (ps_set (i := 8) scLaw.nd rfl (.inl rfl) (pe_ifExp (PW.pt (pw_or (pt_cmpR op_isN (pv 8) pe_non (nomark _)) (pw_or1 (pt_cmpR (op_ltT hr.units0) (pv 11) (pv 8) (nomark _))))) (pv 11) (pv 8)))) pss_nil)
          (pss_one (ps_set (i := 10) scLaw.nd rfl (.inl rfl) (pe_op op_cat (pv 10)
            (pe_lc (own := [("_law_y", 14), ("_law_length", 15)]) (g := gTup K 2 (gCons (gName 14) (gCons (gName 15) gNil))) (by rfl) scLaw.nd (pi_list (pe_call GS hr (by rfl) gS kS bS .nil pass0 (pa_cons (pv 2) (pa_cons (pe_ix ix_tup (pv 11) (pe_un un_neg pe_int) (fun _ _ => rfl)) pa_nil)))) (blkOk_by (own := [("_law_y", 14), ("_law_length", 15)]) (N := nLaw) (sc := defScope sLaw) (by decide +kernel))
              (fun _ _ _ _ _ => pg_tup (by rfl) (pgs_cons (pg_name (i := 14) scLaw.nd rfl (Or.inl rfl)) (pgs_cons (pg_name (i := 15) scLaw.nd rfl (Or.inl rfl)) pgs_nil)))
              (fun _ _ _ _ _ => pts_one (pt_cmpR op_eq (pe_op op_add (pe_op op_add (pv 12) (pv 15)) (pe_ix (r := rIxL K) ix_list (pe_ix (r := rIxL K) ix_list (pv 3) (pv 14) (fun _ _ => rfl)) (pv 6) (fun _ _ => rfl))) (pe_ix (r := rIxL K) ix_list (pe_ix (r := rIxL K) ix_list (pv 3) (pv 5) (fun _ _ => rfl)) (pv 6) (fun _ _ => rfl)) (nomark _)))
              (fun _ _ _ _ _ => pe_tup (pa_cons (pe_op (r := rCatT K) op_catT (pv 11) (pe_tup (pa_cons (pv 14) pa_nil))) (pa_cons (pe_op op_add (pv 12) (pv 15)) pa_nil)))))))))
        (pss_one (ps_set (i := 7) scLaw.nd rfl (.inl rfl) (pv 10))))))
      (pss_one (ps_ret (pe_call GA1 (hr.mono (by decide)) (by rfl) gA kA bA .nil pass0 (pa_cons (pe_call GY hr (by rfl) gY kY bY .nil pass0 (pa_cons (pv 2) (pa_cons (pv 5) (pa_cons (pv 6) pa_nil)))) (pa_cons (pv 8) pa_nil))))))))))), ?_⟩
    -- the row, the web
    refine ⟨_, rfl, line_big (by simp), fun q nq => ?_⟩
    have R1 : RowAt K (upd H q (.lst [.ref sc, .int 0, .int 6300, .int 0])) q := ⟨sc, ns, 0, 6300, 0, hS.go (Soft.upd (.inl nq)), hlen, upd_same, by decide⟩
    refine ⟨_, rfl, q, rfl, R1, fun H2 v n ws rs sx2 R2 hW G => ?_⟩
    clear R1 sx2 nq
    have n2 := G.n2
    have n8 := G.n8
    -- its rows and their count
    refine ⟨_, rfl, v, n, ws, rs, rfl, hW, G, fun H3 p ps S3 T => ?_⟩
    obtain ⟨tw, tr, hv, htw, hrr⟩ := id (hW.same S3)
    refine ⟨_, rfl, v, _, 0, _, rfl, rfl, .of hv, atI_nat (j := 0) rfl, _, n, rfl, .inr ⟨_, .of htw, by rw [List.length_map, G.wl]⟩, line_big (by simp), fun T1 nT1 => ⟨T1, _, rfl, .of upd_same, rfl, _, _, rfl, _, _, rfl, rfl, ?_⟩⟩
    replace T := T.same (same_new (o := .tup [.ref p, .int (n : Int)]) (.refl H3) nT1)
    replace S3 := same_new (o := .tup [.ref p, .int (n : Int)]) S3 nT1
    clear hv htw hrr
    revert T S3
    generalize upd H3 T1 (.tup [.ref p, .int (n : Int)]) = H4
    intro T S3
    replace R2 := R2.same S3
    replace hW := hW.same S3
    clear S3 nT1
    -- the tables agree
    have hg : ∀ i j, i < n → j < n → BF n rs i j = FW n rs i j := BF_eq G (FW_dist G) (by have := far1_small G; omega)
    refine ⟨_, rfl, v, n, ws, rs, rfl, hW, G, fun H5 pt S5 TT => ?_⟩
    have T5 := T.same S5
    refine ⟨_, rfl, p, rfl, ⟨_, .of T5.hd⟩, fun D nD => lc_list (K := K) (a := p) (xs := ps.map V.ref) (fun i H6 => ∃ us : List Addr, Same H5 H6 ∧ H6 D = some (.lst (us.map V.ref)) ∧ us.length = i ∧ ∀ (m : Nat) (a : Addr), us[m]? = some a → H6 a = some (.tup (rowV n (BF n rs) m)))
      ⟨[], same_new (.refl H5) nD, upd_same, rfl, fun m a h => by simp at h⟩ (fun i H6 _ hP => ?_) (fun i x H6 hx hP => ?_) (fun H6 hP => ?_)⟩
    · obtain ⟨us, S6, _⟩ := hP
      exact .of (S6 _ _ T5.hd)
    · obtain ⟨a, ha, rfl⟩ := mget hx
      obtain ⟨us, S6, hD, len, rows⟩ := hP
      have hi : i < n := by have := get_lt ha; rw [T5.len] at this; exact this
      refine ⟨rfl, _, rfl, a, _, rfl, .inl ⟨.of (S6 _ _ (T5.row i a ha)), fun t nt => ?_⟩⟩
      have hD' := keep_new (u := .tup (rowV n (BF n rs) i)) hD nt
      obtain ⟨us', e1, e2, e3⟩ := tups_step (H0 := H) hD' len (fun m a e => keep_new (rows m a e) nt) upd_same
      exact ⟨_, hD', small1000 (by rw [List.length_map]; omega), us', same_upd (same_new S6 nt) nD, e1, e2, e3⟩
    obtain ⟨us, S6, hD, len, rows⟩ := hP
    rw [List.length_map, T5.len] at len
    refine ⟨D, _, rfl, .inl ⟨.of hD, fun t nt => ?_⟩⟩
    have S7 := same_new (o := .tup (us.map V.ref)) S6 nt
    have TT7 : TupTab (upd H6 t (.tup (us.map V.ref))) pt n (FW n rs) := by
      obtain ⟨ts, a1, a2, a3⟩ := TT
      exact ⟨ts, S7 _ _ a1, a2, fun i t e => S7 _ _ (a3 i t e)⟩
    have TB7 : TupTab (upd H6 t (.tup (us.map V.ref))) t n (BF n rs) := ⟨us, upd_same, len, fun m a e => keep_new (rows m a e) nt⟩
    refine ⟨_, _, rfl, al_tab TT7 TB7 n8 (fun i j hi hj => (hg i j hi hj).symm), fun H8 S8 => ⟨true, rfl, iteF ?_⟩⟩
    have S48 : Same H4 H8 := S5.trans (S7.trans S8)
    replace T := T.same S48
    replace R2 := R2.same S48
    replace hW := hW.same S48
    clear S48 S8 TB7 TT7 S7 nt rows len hD S6 us nD T5 TT S5
    -- two points
    refine ⟨_, rfl, _, rfl, q, n, rfl, R2, by omega, by omega, fun H9 a ha sx9 R9 => ⟨_, rfl, _, rfl, q, n, rfl, R9, by omega, by omega, fun H10 b hb sx10 R10 => ⟨line_big (by simp), fun T2 nT2 => ⟨T2, _, rfl, .of upd_same, rfl, _, _, rfl, _, _, rfl, rfl, ?_⟩⟩⟩⟩
    have sx810 := sx9.trans sx10
    replace T := T.x n2 R2 sx810
    obtain ⟨yq, hq8⟩ := R2.get
    replace hW := hW.tk (sx810.tk hq8)
    -- the ways ahead of the search
    refine ⟨_, rfl, line_big (by simp), fun u0 nu0 => ⟨line_big (by simp), fun t0 nt0 => ⟨line_big (by simp), fun L0 nL0 => ⟨_, _, rfl, ?_⟩⟩⟩⟩
    have S1 := same_new (o := .lst [.ref t0]) (same_new (o := .tup [.ref u0, .int 0]) (same_new (o := .tup [iv a]) (same_new (o := .tup [iv a, iv b]) (.refl H10) nT2) nu0) nt0) nL0
    have hu0 := keep_new (u := .lst [.ref t0]) (keep_new (u := .tup [.ref u0, .int 0]) (upd_same (H := upd H10 T2 (.tup [iv a, iv b])) (a := u0) (o := .tup [iv a])) nt0) nL0
    have ht0 := keep_new (u := .lst [.ref t0]) (upd_same (H := upd (upd H10 T2 (.tup [iv a, iv b])) u0 (.tup [iv a])) (a := t0) (o := .tup [.ref u0, .int 0])) nL0
    have hL0 := upd_same (H := upd (upd (upd H10 T2 (.tup [iv a, iv b])) u0 (.tup [iv a])) t0 (.tup [.ref u0, .int 0])) (a := L0) (o := .lst [.ref t0])
    replace T := T.same S1
    replace hW := hW.same S1
    clear S1
    revert hu0 ht0 hL0 T hW
    generalize upd (upd (upd (upd H10 T2 (.tup [iv a, iv b])) u0 (.tup [iv a])) t0 (.tup [.ref u0, .int 0])) L0 (.lst [.ref t0]) = H11
    intro hu0 ht0 hL0 T hW
    clear nL0 nt0 nu0 nT2 sx810 sx9 sx10 R9 R10 R2 hq8 yq
    let σ0 : L2.St := [some (.ref sc), some (.ref q), some (.ref v), some (.ref p), some (iv n), some (iv a), some (iv b)]
    have W0 : WaysV H11 [.ref t0] (Wt rs (BF n rs) a b 0) := .one ⟨t0, u0, rfl, ht0, hu0⟩
    generalize hgB : BF n rs = g at T W0 hg
    refine ⟨_, rfl, n, rfl, by omega, by omega, for_rangeN (n := n) (fun i σ H1 => ∃ (L : Addr) (ys : List V) (dv : V) (x9 x10 x11 x12 : Option V), σ = [some (.ref sc), some (.ref q), some (.ref v), some (.ref p), some (iv n), some (iv a), some (iv b), some (.ref L), some dv, x9, x10, x11, x12, none, none, none] ∧ Same H11 H1 ∧ H1 L = some (.lst ys) ∧ WaysV H1 ys (Wt rs g a b i) ∧ DueV H1 dv (due rs g a b i))
      ⟨L0, [.ref t0], .non, _, _, _, _, rfl, .refl H11, hL0, W0, rfl⟩ (fun i σ H1 hi hP => ?_) (fun σ H1 hP => ?_)⟩
    · clear W0 hL0 ht0 hu0
      obtain ⟨L, ys, dv, x9, x10, x11, x12, rfl, S, hL, hY, hd⟩ := hP
      refine ⟨Nat.zero_le _, fun M nM => ?_⟩
      have wlen := Wt_len (g := g) (a := a) (b := b) G i
      have e8 : 8 * (Wt rs g a b i).length ≤ sizeLine := by
        have h1 : 8 ^ i ≤ 8 ^ 7 := Nat.pow_le_pow_right (by decide) (by omega)
        have h2 : (8 : Nat) ^ 7 = 2097152 := by decide
        rw [sizeLine_eq]
        omega
      have snd := fun w hw => Wt_sound G (FW_dist G) hg ha hb i w hw
      show _
      have est : Wt rs g a b (i + 1) = (Wt rs g a b i).flatMap (ext1 rs g a b) := rfl
      have edu : due rs g a b (i + 1) = (Wt rs g a b i).foldl (due1 g a b) (due rs g a b i) := rfl
      rw [est, edu]
      generalize Wt rs g a b i = W at hY wlen e8 snd
      generalize due rs g a b i = d at hd
      have Sm := same_new (o := .lst []) (.refl H1) nM
      refine ⟨_, rfl, L, rfl, ⟨_, .of (Sm _ _ hL)⟩, for_list (K := K) (a := L) (xs := ys) (fun j σ H2 => ∃ (M : Addr) (zs : List V) (dv : V) (x11 x12 : Option V), σ = [some (.ref sc), some (.ref q), some (.ref v), some (.ref p), some (iv n), some (iv a), some (iv b), some (.ref L), some dv, some (iv i), some (.ref M), x11, x12, none, none, none] ∧ Same H1 H2 ∧ H2 M = some (.lst zs) ∧ WaysV H2 zs ((W.take j).flatMap (ext1 rs g a b)) ∧ DueV H2 dv ((W.take j).foldl (due1 g a b) d))
        ⟨M, [], dv, _, _, rfl, Sm, upd_same, .nil, hd.same Sm⟩ (fun j σ H2 _ hP => ?_) (fun j y σ H2 hy hP => ?_) (fun σ H2 hP => ?_)⟩
      · obtain ⟨_, _, _, _, _, _, S2, _⟩ := hP
        exact .of (S2 _ _ hL)
      · clear Sm hd nM
        obtain ⟨M, zs, dv, x11, x12, rfl, S2, hM, hZ, hd⟩ := hP
        obtain ⟨w, hw⟩ := get_of (l := W) (i := j) (by rw [← hY.1]; exact get_lt hy)
        obtain ⟨t, u, rfl, ht, hu⟩ := (hY.same S2).2 j y w hy hw
        obtain ⟨lx_, ch, _, _⟩ := snd w (get_mem hw)
        have wne := ch.last.2
        have T2 := T.same (S.trans S2)
        obtain ⟨ra, ea, hra, aa⟩ := T2.get (i := a) ha
        have dd : (W.take (j + 1)).foldl (due1 g a b) d = due1 g a b ((W.take j).foldl (due1 g a b) d) w := by rw [take_snoc hw, List.foldl_append]; rfl
        have hfl : ((W.take j).flatMap (ext1 rs g a b)).length + 8 ≤ sizeLine := by
          have h1 := flat_len (g := g) (a := a) (b := b) G (W.take j)
          have h2 : (W.take j).length ≤ j := by rw [List.length_take]; omega
          have h3 := get_lt hw
          omega
        have ff : (W.take (j + 1)).flatMap (ext1 rs g a b) = (W.take j).flatMap (ext1 rs g a b) ++ ext1 rs g a b w := by rw [take_snoc hw, List.flatMap_append]; simp
        rw [dd, ff]
        generalize (W.take j).foldl (due1 g a b) d = d1 at hd
        generalize (W.take j).flatMap (ext1 rs g a b) = Z at hZ hfl
        refine ⟨t, _, rfl, .of ht, rfl, _, _, rfl, _, _, rfl, rfl, ?_⟩
        refine ⟨fun σ' H' => ∃ dv' : V, σ' = [some (.ref sc), some (.ref q), some (.ref v), some (.ref p), some (iv n), some (iv a), some (iv b), some (.ref L), some dv', some (iv i), some (.ref M), some (.ref u), some (iv w.2), none, none, none] ∧ H' = H2 ∧ DueV H2 dv' (due1 g a b d1 w), ?_, fun σ' H' hm => ?_⟩
        · by_cases c1 : lastD w.1 = b
          · refine ⟨_, rfl, 1, rfl, u, _, -1, iv (lastD w.1), rfl, rfl, .of hu, at_last rfl wne, _, rfl, rfl, true, congrArg V.bl (decide_eq_true (by rw [c1])), iteT ?_⟩
            by_cases c2 : w.2 = g a b
            · refine ⟨_, rfl, _, rfl, _, rfl, p, _, a, _, rfl, rfl, .of T2.hd, aa, _, rfl, ra, _, b, _, rfl, rfl, .of hra, rowV_at hb, rfl, true, congrArg V.bl (decide_eq_true (by rw [c2])), iteT ?_⟩
              cases d1 with
              | none =>
                rw [due1_none c1 c2]
                have edv : dv = .non := hd
                subst edv
                exact ⟨_, rfl, rfl, true, rfl, iteT ⟨_, rfl, .ref u, rfl, rfl, u, rfl, hu⟩⟩
              | some q1 =>
                rw [due1_some c1 c2]
                obtain ⟨u2, rfl, hu2⟩ := hd
                refine ⟨_, rfl, rfl, false, rfl, iteF ⟨_, rfl, _, rfl, u, u2, w.1.map (fun k : Nat => (k : Int)), q1.map (fun k : Nat => (k : Int)), rfl, rfl, .of (by rw [hu, map_iv]), .of (by rw [hu2, map_iv]), lx w.1 q1, congrArg V.bl (lex_lx _ _), ?_⟩⟩
                by_cases c3 : lx w.1 q1 = true
                · rw [c3]
                  exact iteT ⟨_, rfl, .ref u, rfl, rfl, u, rfl, hu⟩
                · have c3' : lx w.1 q1 = false := by simpa using c3
                  rw [c3']
                  exact iteF ⟨_, rfl, .ref u2, rfl, rfl, u2, rfl, hu2⟩
            · refine ⟨_, rfl, _, rfl, _, rfl, p, _, a, _, rfl, rfl, .of T2.hd, aa, _, rfl, ra, _, b, _, rfl, rfl, .of hra, rowV_at hb, rfl, false, congrArg V.bl (decide_eq_false (fun z => c2 (iv_inj z))), iteF ?_⟩
              exact ⟨dv, rfl, rfl, by unfold due1; rw [if_neg (fun z => c2 z.2)]; exact hd⟩
          · refine ⟨_, rfl, 1, rfl, u, _, -1, iv (lastD w.1), rfl, rfl, .of hu, at_last rfl wne, _, rfl, rfl, false, congrArg V.bl (decide_eq_false (fun z => c1 (iv_inj z))), iteF (iteF ?_)⟩
            exact ⟨dv, rfl, rfl, by unfold due1; rw [if_neg (fun z => c1 z.1)]; exact hd⟩
        · obtain ⟨dv', rfl, rfl, hd'⟩ := hm
          refine ⟨_, rfl, _, rfl, _, rfl, 1, rfl, u, _, -1, iv (lastD w.1), rfl, rfl, .of hu, at_last rfl wne, v, n, ws, rs, lastD w.1, rfl, hW.same (S.trans S2), G, fun H4 pl us S4 hpl hU => ?_⟩
          let mk : Nat × Nat → Way := fun s => (w.1 ++ [s.1], w.2 + s.2)
          have slen := lsteps_len G (lastD w.1)
          refine ⟨pl, rfl, ⟨_, .of hpl⟩, fun D nD => lc_list (K := K) (a := pl) (xs := us.map V.ref) (fun k H5 => ∃ vs : List V, Same H4 H5 ∧ H5 D = some (.lst vs) ∧ WaysV H5 vs ((((lsteps rs (lastD w.1)).take k).filter (fits g a b w)).map mk))
            ⟨[], same_new (.refl H4) nD, upd_same, .nil⟩ (fun k H5 _ hP => ?_) (fun k x H5 hx hP => ?_) (fun H5 hP => ?_)⟩
          · obtain ⟨_, S5, _⟩ := hP
            exact .of (S5 _ _ hpl)
          · obtain ⟨us_k, huk, rfl⟩ := mget hx
            obtain ⟨vs, S5, hD, hV⟩ := hP
            obtain ⟨s1, hs1⟩ := get_of (l := lsteps rs (lastD w.1)) (i := k) (by rw [← hU.1]; exact get_lt huk)
            have hpair := S5 _ _ (hU.2 k us_k s1 huk hs1)
            have ad := mem_lsteps.mp (get_mem hs1)
            have y_lt := (ad.lt G).2.1
            have S45 := S4.trans S5
            have T5 := T2.same S45
            have hu5 := S45 _ _ hu
            obtain ⟨ry, ey, hry, ay⟩ := T5.get (i := s1.1) y_lt
            obtain ⟨rb, eb, hrb, ab⟩ := T5.get (i := a) ha
            refine ⟨us_k, _, rfl, .of hpair, rfl, _, _, rfl, _, _, rfl, rfl, rfl, ?_⟩
            refine ⟨_, rfl, _, rfl, w.2, s1.2, rfl, rfl, _, rfl, _, rfl, p, _, s1.1, _, rfl, rfl, .of T5.hd, ay, _, rfl, ry, _, b, _, rfl, rfl, .of hry, rowV_at hb, (w.2 : Int) + (s1.2 : Int), g s1.1 b, rfl, rfl, ?_⟩
            refine ⟨_, rfl, _, rfl, p, _, a, _, rfl, rfl, .of T5.hd, ab, _, rfl, rb, _, b, _, rfl, rfl, .of hrb, rowV_at hb, rfl, fits g a b w s1, congrArg V.bl ?_, ?_⟩
            · show decide (V.int ((w.2 : Int) + (s1.2 : Int) + (g s1.1 b : Int)) = iv (g a b)) = decide (w.2 + s1.2 + g s1.1 b = g a b)
              by_cases z : w.2 + s1.2 + g s1.1 b = g a b
              · rw [decide_eq_true z, decide_eq_true]
                show V.int _ = V.int _
                congr 1
                omega
              · rw [decide_eq_false z, decide_eq_false]
                intro c
                have := V.int.inj c
                omega
            · rw [take_snoc hs1, List.filter_append]
              by_cases z : fits g a b w s1 = true
              · rw [z]
                refine iteT ?_
                have wl8 : w.1.length ≤ 8 := by
                  have := ch.len G (FW_dist G) ha
                  omega
                refine ⟨_, rfl, _, rfl, line_big (by simp), fun T4 nT4 => ⟨u, T4, _, _, rfl, rfl, .of (keep_new hu5 nT4), .of upd_same, ?_, ?_, (fun e => by cases e), fun _ T6 nT6 => ?_⟩⟩
                · intro e
                  exact wne (List.map_eq_nil_iff.mp e)
                · exact line_big (by rw [List.length_map]; simp; omega)
                refine ⟨_, rfl, _, rfl, w.2, s1.2, rfl, rfl, line_big (by simp), fun T7 nT7 => ?_⟩
                have S8 := same_new (o := .tup [.ref T6, (fun i j : Int => V.int (i + j)) (w.2 : Int) (s1.2 : Int)]) (same_new (o := .tup (w.1.map iv ++ [iv s1.1])) (same_new (o := .tup [iv s1.1]) (.refl H5) nT4) nT6) nT7
                have hT6 := keep_new (u := .tup [.ref T6, (fun i j : Int => V.int (i + j)) (w.2 : Int) (s1.2 : Int)]) (upd_same (H := upd H5 T4 (.tup [iv s1.1])) (a := T6) (o := .tup (w.1.map iv ++ [iv s1.1]))) nT7
                have hT7 := upd_same (H := upd (upd H5 T4 (.tup [iv s1.1])) T6 (.tup (w.1.map iv ++ [iv s1.1]))) (a := T7) (o := .tup [.ref T6, (fun i j : Int => V.int (i + j)) (w.2 : Int) (s1.2 : Int)])
                have hD8 := S8 _ _ hD
                have hV8 := (hV.same S8).app (.one (w := mk s1) ⟨T7, T6, rfl, hT7, by rw [hT6]; show _ = some (HO.tup ((w.1 ++ [s1.1]).map iv)); rw [List.map_append]; rfl⟩)
                refine ⟨_, hD8, small1000 ?_, _, same_upd (S5.trans S8) nD, upd_same, ?_⟩
                · rw [hV.1, List.length_map]
                  have := List.length_filter_le (fits g a b w) ((lsteps rs (lastD w.1)).take k)
                  rw [List.length_take] at this
                  omega
                · rw [List.filter_cons, if_pos z, List.filter_nil, List.map_append]
                  exact hV8.put hD8
              · have z' : fits g a b w s1 = false := by simpa using z
                rw [z']
                refine iteF ⟨vs, S5, hD, ?_⟩
                rw [List.filter_cons, if_neg z, List.filter_nil, List.append_nil]
                exact hV
          · obtain ⟨vs, S5, hD, hV⟩ := hP
            rw [List.length_map, hU.1, List.take_length] at hV
            have S25 := S4.trans S5
            have ve : vs.length ≤ 8 := by
              rw [hV.1]
              exact ext1_len (g := g) (a := a) (b := b) G w
            refine ⟨M, D, zs, vs, rfl, rfl, S25 _ _ hM, hD, by rw [hZ.1]; omega, fun N nN => ?_⟩
            have S9 := same_new (o := .lst (zs ++ vs)) (.refl H5) nN
            exact ⟨N, zs ++ vs, dv', _, _, rfl, S2.trans (S25.trans S9), upd_same, ((hZ.same S25).same S9).app (hV.same S9), hd'.same (S25.trans S9)⟩
      · obtain ⟨M, zs, dv, x11, x12, rfl, S2, hM, hZ, hd⟩ := hP
        rw [hY.1, List.take_length] at hZ hd
        exact ⟨_, rfl, M, zs, dv, _, _, _, _, rfl, S.trans S2, hM, hZ, hd⟩
    · obtain ⟨L, ys, dv, x9, x10, x11, x12, rfl, S, hL, hY, hd⟩ := hP
      refine ⟨_, rfl, _, rfl, _, rfl, v, n, ws, rs, a, b, rfl, hW.same S, G, ha, hb, fun H14 qn gw S14 ch hqn => ?_⟩
      have ed := due_eq G (FW_dist G) hg ha hb ch
      rw [ed] at hd
      obtain ⟨u, rfl, hu⟩ := hd
      have wl8 := ch.ch.len G (FW_dist G) ha
      exact ⟨_, rfl, _, _, rfl, al_tup hqn (S14 _ _ hu) (by omega), fun H15 _ => Qk H15⟩
end
end Nh
namespace Nh
open PySem PySem.Spec PyProof.Rows L2
theorem scr_of {K : PySem.W.Frag} {H : Hp} {a : Addr} {ns : List Int} (hO : Only H) (h : SqL K H a (ns.map V.int)) : Scr K H a ns := fun H' fr => by
  rcases h with (h | ⟨o, h⟩) | h
  · rcases hO a with z | ⟨o, xs, z⟩
    · rw [h] at z; cases z
    · rw [h] at z; cases z
  · exact .inl (.inr ⟨o, fr _ _ _ h⟩)
  · exact .inr h
theorem all_mk {l : PySem.W.OpenLaw} {w : World} {K : PySem.W.Frag} {h : Heap} {mg : Str → Option Value} {fa : Addr} (X : K.In h) (G : h.Ns mainGlobals mg) (hfa : mg "law" = some (.ref fa))
    {f0 f1 f2 f3 f4 f5 f6 f7 f8 f9 f10 f11 f12 f13 f14 f15 f16 f17 f18 : Addr}
    {od0 an0 od1 an1 od2 an2 od3 an3 od4 an4 od5 an5 od6 an6 od7 an7 od8 an8 od9 an9 od10 an10 od11 an11 od12 an12 od13 an13 od14 an14 od15 an15 od16 an16 od17 an17 od18 an18 : Option Addr}
    {sl0 sl1 sl2 sl3 sl4 sl5 sl6 sl7 sl8 sl9 sl10 sl11 sl12 sl13 sl14 sl15 sl16 sl17 sl18 : Array (Option Value)}
    {oc0 kV0 dc0 pm0 cd0 ct0 oc1 kV1 dc1 pm1 cd1 ct1 oc2 kV2 dc2 pm2 cd2 ct2 oc3 kV3 dc3 pm3 cd3 ct3 oc4 kV4 dc4 pm4 cd4 ct4 oc5 kV5 dc5 pm5 cd5 ct5 oc6 kV6 dc6 pm6 cd6 ct6 oc7 kV7 dc7 pm7 cd7 ct7 oc8 kV8 dc8 pm8 cd8 ct8 oc9 kV9 dc9 pm9 cd9 ct9 oc10 kV10 dc10 pm10 cd10 ct10 oc11 kV11 dc11 pm11 cd11 ct11 oc12 kV12 dc12 pm12 cd12 ct12 oc13 kV13 dc13 pm13 cd13 ct13 oc14 kV14 dc14 pm14 cd14 ct14 oc15 kV15 dc15 pm15 cd15 ct15 oc16 kV16 dc16 pm16 cd16 ct16 oc17 kV17 dc17 pm17 cd17 ct17 oc18 kV18 dc18 pm18 cd18 ct18 : Value}
    {t0 t1 t2 t3 : Tok}
    (a0 : PySem.W.nsIn K mainGlobals "is_in" = some (some (.ref f0))) (l0 : K.lookup f0 = some ⟨oc0, od0, .func (PySem.W.fnOf "is_in" "is_in" (defArgs sIsIn) (defBody sIsIn) (defScope sIsIn) .none kV0 dc0 pm0 an0 cd0 ct0), sl0⟩) (c0 : PySem.W.codeIn K cd0 "is_in" = true) (k0 : PySem.W.keepIn K (.ref f0) = true)
    (a1 : PySem.W.nsIn K mainGlobals "is_road" = some (some (.ref f1))) (l1 : K.lookup f1 = some ⟨oc1, od1, .func (PySem.W.fnOf "is_road" "is_road" (defArgs sIsRoad) (defBody sIsRoad) (defScope sIsRoad) .none kV1 dc1 pm1 an1 cd1 ct1), sl1⟩) (c1 : PySem.W.codeIn K cd1 "is_road" = true) (k1 : PySem.W.keepIn K (.ref f1) = true)
    (a2 : PySem.W.nsIn K mainGlobals "is_weights" = some (some (.ref f2))) (l2 : K.lookup f2 = some ⟨oc2, od2, .func (PySem.W.fnOf "is_weights" "is_weights" (defArgs sIsW) (defBody sIsW) (defScope sIsW) .none kV2 dc2 pm2 an2 cd2 ct2), sl2⟩) (c2 : PySem.W.codeIn K cd2 "is_weights" = true) (k2 : PySem.W.keepIn K (.ref f2) = true)
    (a3 : PySem.W.nsIn K mainGlobals "need_web" = some (some (.ref f3))) (l3 : K.lookup f3 = some ⟨oc3, od3, .func (PySem.W.fnOf "need_web" "need_web" (defArgs sNeedW) (defBody sNeedW) (defScope sNeedW) .none kV3 dc3 pm3 an3 cd3 ct3), sl3⟩) (c3 : PySem.W.codeIn K cd3 "need_web" = true) (k3 : PySem.W.keepIn K (.ref f3) = true)
    (a4 : PySem.W.nsIn K mainGlobals "need_point" = some (some (.ref f4))) (l4 : K.lookup f4 = some ⟨oc4, od4, .func (PySem.W.fnOf "need_point" "need_point" (defArgs sNeedP) (defBody sNeedP) (defScope sNeedP) .none kV4 dc4 pm4 an4 cd4 ct4), sl4⟩) (c4 : PySem.W.codeIn K cd4 "need_point" = true) (k4 : PySem.W.keepIn K (.ref f4) = true)
    (a5 : PySem.W.nsIn K mainGlobals "parts_in" = some (some (.ref f5))) (l5 : K.lookup f5 = some ⟨oc5, od5, .func (PySem.W.fnOf "parts_in" "parts_in" (defArgs sParts) (defBody sParts) (defScope sParts) .none kV5 dc5 pm5 an5 cd5 ct5), sl5⟩) (c5 : PySem.W.codeIn K cd5 "parts_in" = true) (k5 : PySem.W.keepIn K (.ref f5) = true)
    (a6 : PySem.W.nsIn K mainGlobals "table_of" = some (some (.ref f6))) (l6 : K.lookup f6 = some ⟨oc6, od6, .func (PySem.W.fnOf "table_of" "table_of" (defArgs sTable) (defBody sTable) (defScope sTable) .none kV6 dc6 pm6 an6 cd6 ct6), sl6⟩) (c6 : PySem.W.codeIn K cd6 "table_of" = true) (k6 : PySem.W.keepIn K (.ref f6) = true)
    (a7 : PySem.W.nsIn K mainGlobals "distances" = some (some (.ref f7))) (l7 : K.lookup f7 = some ⟨oc7, od7, .func (PySem.W.fnOf "distances" "distances" (defArgs sDist) (defBody sDist) (defScope sDist) .none kV7 dc7 pm7 an7 cd7 ct7), sl7⟩) (c7 : PySem.W.codeIn K cd7 "distances" = true) (k7 : PySem.W.keepIn K (.ref f7) = true)
    (a8 : PySem.W.nsIn K mainGlobals "steps_from" = some (some (.ref f8))) (l8 : K.lookup f8 = some ⟨oc8, od8, .func (PySem.W.fnOf "steps_from" "steps_from" (defArgs sSteps) (defBody sSteps) (defScope sSteps) .none kV8 dc8 pm8 an8 cd8 ct8), sl8⟩) (c8 : PySem.W.codeIn K cd8 "steps_from" = true) (k8 : PySem.W.keepIn K (.ref f8) = true)
    (a9 : PySem.W.nsIn K mainGlobals "way_in" = some (some (.ref f9))) (l9 : K.lookup f9 = some ⟨oc9, od9, .func (PySem.W.fnOf "way_in" "way_in" (defArgs sWayIn) (defBody sWayIn) (defScope sWayIn) .none kV9 dc9 pm9 an9 cd9 ct9), sl9⟩) (c9 : PySem.W.codeIn K cd9 "way_in" = true) (k9 : PySem.W.keepIn K (.ref f9) = true)
    (a10 : PySem.W.nsIn K mainGlobals "way" = some (some (.ref f10))) (l10 : K.lookup f10 = some ⟨oc10, od10, .func (PySem.W.fnOf "way" "way" (defArgs sWay) (defBody sWay) (defScope sWay) .none kV10 dc10 pm10 an10 cd10 ct10), sl10⟩) (c10 : PySem.W.codeIn K cd10 "way" = true) (k10 : PySem.W.keepIn K (.ref f10) = true)
    (a11 : PySem.W.nsIn K mainGlobals "_law_taken" = some (some (.ref f11))) (l11 : K.lookup f11 = some ⟨oc11, od11, .func (PySem.W.fnOf "_law_taken" "_law_taken" (defArgs sTaken) (defBody sTaken) (defScope sTaken) .none kV11 dc11 pm11 an11 cd11 ct11), sl11⟩) (c11 : PySem.W.codeIn K cd11 "_law_taken" = true) (k11 : PySem.W.keepIn K (.ref f11) = true)
    (a12 : PySem.W.nsIn K mainGlobals "_law_pick" = some (some (.ref f12))) (l12 : K.lookup f12 = some ⟨oc12, od12, .func (PySem.W.fnOf "_law_pick" "_law_pick" (defArgs sPick) (defBody sPick) (defScope sPick) .none kV12 dc12 pm12 an12 cd12 ct12), sl12⟩) (c12 : PySem.W.codeIn K cd12 "_law_pick" = true) (k12 : PySem.W.keepIn K (.ref f12) = true)
    (a13 : PySem.W.nsIn K mainGlobals "_law_order" = some (some (.ref f13))) (l13 : K.lookup f13 = some ⟨oc13, od13, .func (PySem.W.fnOf "_law_order" "_law_order" (defArgs sOrder) (defBody sOrder) (defScope sOrder) .none kV13 dc13 pm13 an13 cd13 ct13), sl13⟩) (c13 : PySem.W.codeIn K cd13 "_law_order" = true) (k13 : PySem.W.keepIn K (.ref f13) = true)
    (a14 : PySem.W.nsIn K mainGlobals "_law_web" = some (some (.ref f14))) (l14 : K.lookup f14 = some ⟨oc14, od14, .func (PySem.W.fnOf "_law_web" "_law_web" (defArgs sWeb) (defBody sWeb) (defScope sWeb) .none kV14 dc14 pm14 an14 cd14 ct14), sl14⟩) (c14 : PySem.W.codeIn K cd14 "_law_web" = true) (k14 : PySem.W.keepIn K (.ref f14) = true)
    (a15 : PySem.W.nsIn K mainGlobals "_law_rows" = some (some (.ref f15))) (l15 : K.lookup f15 = some ⟨oc15, od15, .func (PySem.W.fnOf "_law_rows" "_law_rows" (defArgs sRows) (defBody sRows) (defScope sRows) .none kV15 dc15 pm15 an15 cd15 ct15), sl15⟩) (c15 : PySem.W.codeIn K cd15 "_law_rows" = true) (k15 : PySem.W.keepIn K (.ref f15) = true)
    (a16 : PySem.W.nsIn K mainGlobals "_law_alike" = some (some (.ref f16))) (l16 : K.lookup f16 = some ⟨oc16, od16, .func (PySem.W.fnOf "_law_alike" "_law_alike" (defArgs sAlike) (defBody sAlike) (defScope sAlike) .none kV16 dc16 pm16 an16 cd16 ct16), sl16⟩) (c16 : PySem.W.codeIn K cd16 "_law_alike" = true) (k16 : PySem.W.keepIn K (.ref f16) = true)
    (a17 : PySem.W.nsIn K mainGlobals "_law_steps" = some (some (.ref f17))) (l17 : K.lookup f17 = some ⟨oc17, od17, .func (PySem.W.fnOf "_law_steps" "_law_steps" (defArgs sLSteps) (defBody sLSteps) (defScope sLSteps) .none kV17 dc17 pm17 an17 cd17 ct17), sl17⟩) (c17 : PySem.W.codeIn K cd17 "_law_steps" = true) (k17 : PySem.W.keepIn K (.ref f17) = true)
    (a18 : PySem.W.nsIn K mainGlobals "law" = some (some (.ref f18))) (l18 : K.lookup f18 = some ⟨oc18, od18, .func (PySem.W.fnOf "law" "law" (defArgs sLaw) (defBody sLaw) (defScope sLaw) .none kV18 dc18 pm18 an18 cd18 ct18), sl18⟩) (c18 : PySem.W.codeIn K cd18 "law" = true) (k18 : PySem.W.keepIn K (.ref f18) = true)
    (m0 : PySem.W.nsIn K mainGlobals "MOST_POINTS" = some (some (.int 8 t0)))
    (m1 : PySem.W.nsIn K mainGlobals "MOST_ROADS" = some (some (.int 14 t1)))
    (m2 : PySem.W.nsIn K mainGlobals "MOST_WEIGHT" = some (some (.int 100 t2)))
    (m3 : PySem.W.nsIn K mainGlobals "MOST_LENGTH" = some (some (.int 100 t3)))
    (z0 : PySem.W.nsIn K mainGlobals "isinstance" = some none)
    (z1 : PySem.W.nsIn K mainGlobals "int" = some none)
    (z2 : PySem.W.nsIn K mainGlobals "bool" = some none)
    (z3 : PySem.W.nsIn K mainGlobals "tuple" = some none)
    (z4 : PySem.W.nsIn K mainGlobals "list" = some none)
    (z5 : PySem.W.nsIn K mainGlobals "str" = some none)
    (z6 : PySem.W.nsIn K mainGlobals "len" = some none)
    (z7 : PySem.W.nsIn K mainGlobals "sum" = some none)
    (z8 : PySem.W.nsIn K mainGlobals "enumerate" = some none)
    (z9 : PySem.W.nsIn K mainGlobals "range" = some none)
    (z10 : PySem.W.nsIn K mainGlobals "sorted" = some none)
    (z11 : PySem.W.nsIn K mainGlobals "min" = some none)
    : ∃ fd : FuncData, (∀ (s : Shared) (v : Value), BindsTo s fd ⟨[v], []⟩ [("_law_script", v)]) ∧ ∀ base : Heap, K.In base → base.Ns mainGlobals mg → FnOk l.prog w K mg base CX0 5 fa fd ["_law_script"] (spLaw K) := by
  have e := hfa.symm.trans (PySem.W.mg_of X G a18)
  cases e
  have F0 := fun_mk (st := sIsIn) l0 c0 k0
  have b0 := F0.binds (ps := ["value", "least", "most"]) fun _ _ _ _ _ _ us hl => match us, hl with | [_, _, _], _ => rfl
  have g0 := PySem.W.mg_of X G a0
  have F1 := fun_mk (st := sIsRoad) l1 c1 k1
  have b1 := F1.binds (ps := ["value", "count"]) fun _ _ _ _ _ _ us hl => match us, hl with | [_, _], _ => rfl
  have g1 := PySem.W.mg_of X G a1
  have F2 := fun_mk (st := sIsW) l2 c2 k2
  have b2 := F2.binds (ps := ["value"]) fun _ _ _ _ _ _ us hl => match us, hl with | [_], _ => rfl
  have g2 := PySem.W.mg_of X G a2
  have F3 := fun_mk (st := sNeedW) l3 c3 k3
  have b3 := F3.binds (ps := ["web"]) fun _ _ _ _ _ _ us hl => match us, hl with | [_], _ => rfl
  have g3 := PySem.W.mg_of X G a3
  have F4 := fun_mk (st := sNeedP) l4 c4 k4
  have b4 := F4.binds (ps := ["web", "point"]) fun _ _ _ _ _ _ us hl => match us, hl with | [_, _], _ => rfl
  have g4 := PySem.W.mg_of X G a4
  have F5 := fun_mk (st := sParts) l5 c5 k5
  have b5 := F5.binds (ps := ["points", "roads"]) fun _ _ _ _ _ _ us hl => match us, hl with | [_, _], _ => rfl
  have g5 := PySem.W.mg_of X G a5
  have F6 := fun_mk (st := sTable) l6 c6 k6
  have b6 := F6.binds (ps := ["web"]) fun _ _ _ _ _ _ us hl => match us, hl with | [_], _ => rfl
  have g6 := PySem.W.mg_of X G a6
  have F7 := fun_mk (st := sDist) l7 c7 k7
  have b7 := F7.binds (ps := ["web"]) fun _ _ _ _ _ _ us hl => match us, hl with | [_], _ => rfl
  have g7 := PySem.W.mg_of X G a7
  have F8 := fun_mk (st := sSteps) l8 c8 k8
  have b8 := F8.binds (ps := ["web", "point"]) fun _ _ _ _ _ _ us hl => match us, hl with | [_, _], _ => rfl
  have g8 := PySem.W.mg_of X G a8
  have F9 := fun_mk (st := sWayIn) l9 c9 k9
  have b9 := F9.binds (ps := ["web", "rows", "a", "b"]) fun _ _ _ _ _ _ us hl => match us, hl with | [_, _, _, _], _ => rfl
  have g9 := PySem.W.mg_of X G a9
  have F10 := fun_mk (st := sWay) l10 c10 k10
  have b10 := F10.binds (ps := ["web", "a", "b"]) fun _ _ _ _ _ _ us hl => match us, hl with | [_, _, _], _ => rfl
  have g10 := PySem.W.mg_of X G a10
  have F11 := fun_mk (st := sTaken) l11 c11 k11
  have b11 := F11.binds (ps := ["_law_row", "_law_many"]) fun _ _ _ _ _ _ us hl => match us, hl with | [_, _], _ => rfl
  have g11 := PySem.W.mg_of X G a11
  have F12 := fun_mk (st := sPick) l12 c12 k12
  have b12 := F12.binds (ps := ["_law_row", "_law_things"]) fun _ _ _ _ _ _ us hl => match us, hl with | [_, _], _ => rfl
  have g12 := PySem.W.mg_of X G a12
  have F13 := fun_mk (st := sOrder) l13 c13 k13
  have b13 := F13.binds (ps := ["_law_row", "_law_many"]) fun _ _ _ _ _ _ us hl => match us, hl with | [_, _], _ => rfl
  have g13 := PySem.W.mg_of X G a13
  have F14 := fun_mk (st := sWeb) l14 c14 k14
  have b14 := F14.binds (ps := ["_law_row", "_law_most", "_law_extra"]) fun _ _ _ _ _ _ us hl => match us, hl with | [_, _, _], _ => rfl
  have g14 := PySem.W.mg_of X G a14
  have F15 := fun_mk (st := sRows) l15 c15 k15
  have b15 := F15.binds (ps := ["_law_web_here"]) fun _ _ _ _ _ _ us hl => match us, hl with | [_], _ => rfl
  have g15 := PySem.W.mg_of X G a15
  have F16 := fun_mk (st := sAlike) l16 c16 k16
  have b16 := F16.binds (ps := ["_law_found", "_law_due"]) fun _ _ _ _ _ _ us hl => match us, hl with | [_, _], _ => rfl
  have g16 := PySem.W.mg_of X G a16
  have F17 := fun_mk (st := sLSteps) l17 c17 k17
  have b17 := F17.binds (ps := ["_law_web_here", "_law_point"]) fun _ _ _ _ _ _ us hl => match us, hl with | [_, _], _ => rfl
  have g17 := PySem.W.mg_of X G a17
  have F18 := fun_mk (st := sLaw) l18 c18 k18
  have n0 := PySem.W.mg_of X G m0
  have n1 := PySem.W.mg_of X G m1
  have n2 := PySem.W.mg_of X G m2
  have n3 := PySem.W.mg_of X G m3
  have B : Free mg := ⟨PySem.W.mg_none_of X G z0, PySem.W.mg_none_of X G z1, PySem.W.mg_none_of X G z2, PySem.W.mg_none_of X G z3, PySem.W.mg_none_of X G z4, PySem.W.mg_none_of X G z5, PySem.W.mg_none_of X G z6, PySem.W.mg_none_of X G z7, PySem.W.mg_none_of X G z8, PySem.W.mg_none_of X G z9, PySem.W.mg_none_of X G z10, PySem.W.mg_none_of X G z11⟩
  refine ⟨PySem.W.fnOf "law" "law" (defArgs sLaw) (defBody sLaw) (defScope sLaw) .none kV18 dc18 pm18 an18 cd18 ct18, fun s v => .of_eq rfl, fun base _ _ => ?_⟩
  have GN : FnOk l.prog w K mg base CX0 3 f3 _ ["web"] spNeedW := ok_needw F3 F0 b0 g0 F2 b2 g2 F1 b1 g1 F5 b5 g5 n2 n0 n3 n1 B
  have GW : FnOk l.prog w K mg base CX0 3 f14 _ ["_law_row", "_law_most", "_law_extra"] (spWeb K) := ok_web F14 F11 b11 g11 F12 b12 g12 F13 b13 g13 B
  have GR : FnOk l.prog w K mg base CX0 4 f15 _ ["_law_web_here"] spRows := ok_rows F15 B
  have GD : FnOk l.prog w K mg base CX0 4 f7 _ ["web"] spDist := ok_dist F7 GN k3 b3 g3 F6 b6 g6 B
  have GY : FnOk l.prog w K mg base CX0 4 f10 _ ["web", "a", "b"] spWay := ok_way F10 GN k3 b3 g3 F0 b0 g0 F4 b4 g4 F6 b6 g6 F8 b8 g8 F9 b9 g9 B
  have GT : FnOk l.prog w K mg base CX0 4 f11 _ ["_law_row", "_law_many"] (spTaken K) := ok_taken F11 B
  have GS : FnOk l.prog w K mg base CX0 4 f17 _ ["_law_web_here", "_law_point"] spLSteps := ok_lsteps F17
  have A0 : FnOk l.prog w K mg base CX0 1 f16 _ ["_law_found", "_law_due"] (spAlike 0) := ok_alike0 F16 B
  have A1 := ok_alikeS F16 b16 g16 B A0
  have A2 := ok_alikeS F16 b16 g16 B A1
  exact ok_law F18 ⟨⟨_, _, GW, k14, b14, g14⟩, ⟨_, _, GR, k15, b15, g15⟩, ⟨_, _, GD, k7, b7, g7⟩, ⟨_, _, GY, k10, b10, g10⟩, ⟨_, _, GT, k11, b11, g11⟩, ⟨_, _, GS, k17, b17, g17⟩, ⟨_, _, A2, A1, k16, b16, g16⟩⟩ B
end Nh
open PySem PySem.W PyProof.Rows
set_option maxHeartbeats 0 in
theorem PySem.Challenge.cw_nearhouses_k00_whole_distances_holds : PySem.Challenge.rw_nearhouses_k00_whole_distances.Holds := by
  w_on; o_law; k_head; (case hw => w_witness2)
  k_fill
  refine L2.walk_of (l := PySem.Challenge.rw_nearhouses_k00_whole_distances) (n := 63) (k := 5) (x := "_law_script") (CX := fun _ => L2.CX0) (sp := fun w => Nh.spLaw _) rfl (by decide) rfl ⟨rfl, by decide, by decide⟩ (fun w h Y => PySem.W.kIn_of Y) ?F (fun _ _ a ns hl hO hS => ⟨a, ns, rfl, Nh.scr_of hO hS, hl, fun _ => rfl⟩) (fun _ _ _ _ _ h => h)
  case F =>
    intro w mg fa h KX G hmg
    refine' Nh.all_mk KX G hmg ?a0 ?l0 ?c0 ?k0 ?a1 ?l1 ?c1 ?k1 ?a2 ?l2 ?c2 ?k2 ?a3 ?l3 ?c3 ?k3 ?a4 ?l4 ?c4 ?k4 ?a5 ?l5 ?c5 ?k5 ?a6 ?l6 ?c6 ?k6 ?a7 ?l7 ?c7 ?k7 ?a8 ?l8 ?c8 ?k8 ?a9 ?l9 ?c9 ?k9 ?a10 ?l10 ?c10 ?k10 ?a11 ?l11 ?c11 ?k11 ?a12 ?l12 ?c12 ?k12 ?a13 ?l13 ?c13 ?k13 ?a14 ?l14 ?c14 ?k14 ?a15 ?l15 ?c15 ?k15 ?a16 ?l16 ?c16 ?k16 ?a17 ?l17 ?c17 ?k17 ?a18 ?l18 ?c18 ?k18 ?m0 ?m1 ?m2 ?m3 ?z0 ?z1 ?z2 ?z3 ?z4 ?z5 ?z6 ?z7 ?z8 ?z9 ?z10 ?z11
    (case a0 => k_is); (case l0 => k_is); (case c0 => k_is); (case k0 => k_is); (case a1 => k_is); (case l1 => k_is); (case c1 => k_is); (case k1 => k_is); (case a2 => k_is); (case l2 => k_is); (case c2 => k_is); (case k2 => k_is); (case a3 => k_is); (case l3 => k_is); (case c3 => k_is); (case k3 => k_is); (case a4 => k_is); (case l4 => k_is); (case c4 => k_is); (case k4 => k_is); (case a5 => k_is); (case l5 => k_is); (case c5 => k_is); (case k5 => k_is); (case a6 => k_is); (case l6 => k_is); (case c6 => k_is); (case k6 => k_is); (case a7 => k_is); (case l7 => k_is); (case c7 => k_is); (case k7 => k_is); (case a8 => k_is); (case l8 => k_is); (case c8 => k_is); (case k8 => k_is); (case a9 => k_is); (case l9 => k_is); (case c9 => k_is); (case k9 => k_is); (case a10 => k_is); (case l10 => k_is); (case c10 => k_is); (case k10 => k_is); (case a11 => k_is); (case l11 => k_is); (case c11 => k_is); (case k11 => k_is); (case a12 => k_is); (case l12 => k_is); (case c12 => k_is); (case k12 => k_is); (case a13 => k_is); (case l13 => k_is); (case c13 => k_is); (case k13 => k_is); (case a14 => k_is); (case l14 => k_is); (case c14 => k_is); (case k14 => k_is); (case a15 => k_is); (case l15 => k_is); (case c15 => k_is); (case k15 => k_is); (case a16 => k_is); (case l16 => k_is); (case c16 => k_is); (case k16 => k_is); (case a17 => k_is); (case l17 => k_is); (case c17 => k_is); (case k17 => k_is); (case a18 => k_is); (case l18 => k_is); (case c18 => k_is); (case k18 => k_is); (case m0 => k_is); (case m1 => k_is); (case m2 => k_is); (case m3 => k_is); (case z0 => k_is); (case z1 => k_is); (case z2 => k_is); (case z3 => k_is); (case z4 => k_is); (case z5 => k_is); (case z6 => k_is); (case z7 => k_is); (case z8 => k_is); (case z9 => k_is); (case z10 => k_is); (case z11 => k_is)
#print axioms PySem.Challenge.cw_nearhouses_k00_whole_distances_holds
