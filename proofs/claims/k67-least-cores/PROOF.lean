import PyProof.Rows.All
import Wide.All
import OpenK.AllK
import Wide.FinOn
import PySem.Challenge.RW_ringstairs_k67_whole_least_cores_of_a_bo
import HandS.ForMost
import HandS.Zip
import HandS.TupMul
import HandS.TupAny
import HandS.Star
import HandS.IsInst
import HandS.SetKeys
import HandS.Conv
import HandS.SortOrd
import HandS.SortInts
import HandS.SortKw
import HandS.Walk
import HandS.More
import HandS.Wide
import HandS.TupSets
import HandS.TupLen
import KE.GoesEnum
import KE.KTupSum
set_option Elab.async false
set_option linter.all false
set_option maxRecDepth 100000
set_option maxHeartbeats 4100000
namespace R67
/-! ### the mirror: what each def computes, in plain Lean -/
abbrev Hg := List Int
def gz (h : Hg) (c : Int) : Int := h.getD c.toNat 0
def downs (n : Nat) : List Int := (List.range (n + 1)).map fun i => (n : Int) + (i : Nat) * (-1)
def ups (n : Nat) : List Int := (List.range (n + 1)).map fun i => (0 : Int) + (i : Nat)
def isTop (h : Hg) (c : Int) : Bool := decide (c = 0) || decide (gz h (c - 1) > gz h c)
def addCols (h : Hg) : List Int := (downs h.length).filter (isTop h)
def ins (x : Int) : List Int → List Int
  | [] => [x]
  | y :: r => if x ≤ y then x :: y :: r else y :: ins x r
def isort : List Int → List Int
  | [] => []
  | x :: r => ins x (isort r)
def diag (h : Hg) (c : Int) : Int := c - gz h c
def canAdd (h : Hg) : List Int := isort ((addCols h).map (diag h))
def b2 (b : Bool) : Int := if b then 1 else 0
def enumI : Int → Hg → List (Int × Int)
  | _, [] => []
  | i, x :: r => (i, x) :: enumI (i + 1) r
def pos (x : Int) : Bool := decide (0 < x)
def risen (h : Hg) (cols : List Int) : Hg := ((enumI 0 (h ++ [0])).map fun p => p.2 + b2 (cols.contains p.1)).filter pos
def lets (h : Hg) (n s p c : Int) : Bool := decide ((diag h c * s - p) % n = 0)
def grown (h : Hg) (n s p : Int) : Hg := risen h ((addCols h).filter (lets h n s p))
def holds (a b : Hg) : Bool := decide (b.length ≤ a.length) && (a.zip b).all fun p => decide (p.2 ≤ p.1)
def maxI : Hg → Int
  | [] => 0
  | x :: r => r.foldl (fun a b => if b > a then b else a) x
def rowsOf (h : Hg) : List Int := (List.range (maxI h).toNat).map fun i => (0 : Int) + (i : Nat)
def flipd (h : Hg) : Hg := (rowsOf h).map fun row => (((h.filter fun x => decide (row < x)).length : Nat) : Int)
def hooks (ls : Hg) (c x : Int) : List Int := ((List.range x.toNat).map fun i => (0 : Int) + (i : Nat)).map fun row => x - row + gz ls row - c - 1
def partsOf (k : Int) (ls : Hg) (p : Int × Int) : Int := ((((hooks ls p.1 p.2).filter fun z => decide (z < k)).length : Nat) : Int)
def parts (k : Int) (h : Hg) : List Int := (enumI 0 h).map (partsOf k (flipd h))
def letters (k : Int) (h : Hg) : Int := (parts k h).sum
def beads (h : Hg) : List Int := (enumI 0 h).map fun p => p.2 - p.1 - 1
def beadOk (k : Int) (bs : List Int) (below b : Int) : Bool := decide (b - k < below) || bs.contains (b - k)
def isCore (k : Int) (h : Hg) : Bool := (beads h).all (beadOk k (beads h) (-(h.length : Int)))
/-! ### the cores that hold a box -/
def put (l : List Hg) (x : Hg) : List Hg := if l.contains x then l else l ++ [x]
def cStep (k : Int) (goal : Hg) (st : List Hg × List Hg) (core : Hg) : List Hg × List Hg :=
  if holds core goal = true then (st.1 ++ [core], st.2)
  else if letters k core < goal.sum then (st.1, (canAdd core).foldl (fun l d => put l (grown core k 1 (d % k))) st.2) else st
def cRound (k : Int) (goal : Hg) (st : List Hg × List Hg) : List Hg × List Hg := st.2.foldl (cStep k goal) (st.1, [])
def cRun (k : Int) (goal : Hg) : Nat → List Hg × List Hg
  | 0 => ([], [[]])
  | n + 1 => cRound k goal (cRun k goal n)
def found (k : Int) (goal : Hg) : List Hg := (cRun k goal 9).1
def lexLt : Hg → Hg → Bool
  | [], [] => false
  | [], _ :: _ => true
  | _ :: _, [] => false
  | x :: r, y :: q => if x = y then lexLt r q else decide (x < y)
def lins (x : Hg) : List Hg → List Hg
  | [] => [x]
  | y :: r => if lexLt y x = true then y :: lins x r else x :: y :: r
def lsort : List Hg → List Hg
  | [] => []
  | x :: r => lins x (lsort r)
def leastOf (fs : List Hg) : List Hg := fs.filter fun one => !((fs.filter fun other => decide (other ≠ one)).map fun other => holds one other).any id
def least (k : Int) (goal : Hg) : List Hg := lsort (leastOf (found k goal))
def boxOf (c r : Int) : Hg := List.replicate c.toNat r
/-! ### the law's own -/
def look (d : List (Int × List Int)) (x : Int) : Option (List Int) := (d.find? fun p => decide (p.1 = x)).map (·.2)
def addTo (d : List (Int × List Int)) (x c : Int) : List (Int × List Int) :=
  match look d x with
  | some _ => d.map fun p => if p.1 = x then (p.1, p.2 ++ [c]) else p
  | none => d ++ [(x, [c])]
def restStep (k : Int) (h : Hg) (d : List (Int × List Int)) (c : Int) : List (Int × List Int) := if isTop h c = true then addTo d (diag h c % k) c else d
def rests (h : Hg) (k : Int) : List (Int × List Int) := (ups h.length).foldl (restStep k h) []
def behind (h : Hg) (k l : Int) : Hg := risen h ((look (rests h k) l).getD [])
def lawHolds (h o : Hg) : Bool := decide (o.length ≤ h.length) && ((o.zip h).filter fun p => decide (p.2 < p.1)).isEmpty
def layerStep (k : Int) (l : List Hg) (core : Hg) : List Hg := (isort ((rests core k).map (·.1))).foldl (fun l x => put l (behind core k x)) l
def nextLayer (k : Int) (cs : List Hg) : List Hg := lsort (cs.foldl (layerStep k) [])
def layers (k : Int) : Nat → List (List Hg)
  | 0 => [[[]]]
  | n + 1 => layers k n ++ [nextLayer k ((layers k n).getLastD [])]
def dueStep (whole : Hg) (fs : List Hg) (core : Hg) : List Hg := if lawHolds core whole = true ∧ (fs.filter fun o => lawHolds core o).isEmpty = true then fs ++ [core] else fs
def due (k : Int) (whole : Hg) (most : Nat) : List Hg := lsort ((layers k most).foldl (fun fs l => l.foldl (dueStep whole) fs) [])
def minI : List Int → Int
  | [] => 0
  | x :: r => r.foldl (fun a b => if b < a then b else a) x
def fewest (k c r : Int) : Int := minI (((List.range (min c r).toNat).map fun i => (0 : Int) + (i : Nat)).map fun l => (c - l) * (r - l) + l * k)
def heapIn (chain : List (Int × Int)) (ps : List Int) : Hg := (chain.zip ps).foldl (fun h q => grown h q.1.1 q.1.2 q.2) []
end R67
namespace R67
/-! ### orders: ints, and tuples of ints -/
theorem ins_perm (x : Int) : ∀ l : List Int, (ins x l).Perm (x :: l)
  | [] => List.Perm.refl _
  | y :: r => by
    unfold ins
    split
    · exact List.Perm.refl _
    · exact ((ins_perm x r).cons y).trans (List.Perm.swap x y r)
theorem isort_perm : ∀ l : List Int, (isort l).Perm l
  | [] => List.Perm.refl _
  | x :: r => (ins_perm x (isort r)).trans ((isort_perm r).cons x)
theorem ins_sorted (x : Int) : ∀ l : List Int, l.Pairwise (· ≤ ·) → (ins x l).Pairwise (· ≤ ·)
  | [], _ => List.pairwise_singleton _ _
  | y :: r, h => by
    have h1 := List.pairwise_cons.mp h
    unfold ins
    split
    · rename_i c
      refine List.pairwise_cons.mpr ⟨fun z hz => ?_, h⟩
      rcases List.mem_cons.mp hz with e | hz
      · rw [e]; exact c
      · exact Int.le_trans c (h1.1 z hz)
    · rename_i c
      refine List.pairwise_cons.mpr ⟨fun z hz => ?_, ins_sorted x r h1.2⟩
      rcases List.mem_cons.mp ((ins_perm x r).mem_iff.mp hz) with e | hz
      · rw [e]; omega
      · exact h1.1 z hz
theorem isort_sorted : ∀ l : List Int, (isort l).Pairwise (· ≤ ·)
  | [] => List.Pairwise.nil
  | x :: r => ins_sorted x _ (isort_sorted r)
theorem isort_unique {l m : List Int} (p : m.Perm l) (s : m.Pairwise (· ≤ ·)) : m = isort l :=
  (p.trans (isort_perm l).symm).eq_of_pairwise (fun a b _ _ h1 h2 => Int.le_antisymm h1 h2) s (isort_sorted l)
theorem lexLt_asym : ∀ x y : Hg, lexLt x y = true → lexLt y x = false
  | [], [], h => by cases h
  | [], _ :: _, _ => rfl
  | _ :: _, [], h => by cases h
  | a :: x, b :: y, h => by
    unfold lexLt at h ⊢
    by_cases e : a = b
    · rw [if_pos e] at h; rw [if_pos e.symm]; exact lexLt_asym x y h
    · rw [if_neg e] at h; rw [if_neg (Ne.symm e)]
      have := of_decide_eq_true h
      exact decide_eq_false (by omega)
theorem lexLt_tr : ∀ x y z : Hg, lexLt y x = false → lexLt z y = false → lexLt z x = false
  | [], _, [], _, _ => rfl
  | _ :: _, [], z, h, _ => by cases h
  | [], _, _ :: _, _, _ => rfl
  | _ :: _, _ :: _, [], _, h => by cases h
  | a :: x, b :: y, c :: z, h1, h2 => by
    unfold lexLt at h1 h2 ⊢
    by_cases e : b = a
    · by_cases e2 : c = b
      · rw [if_pos e] at h1; rw [if_pos e2] at h2; rw [if_pos (e2.trans e)]; exact lexLt_tr x y z h1 h2
      · rw [if_neg e2] at h2; have q := of_decide_eq_false h2
        rw [if_neg (by omega)]; exact decide_eq_false (by omega)
    · rw [if_neg e] at h1; have q1 := of_decide_eq_false h1
      by_cases e2 : c = b
      · rw [if_neg (by omega)]; exact decide_eq_false (by omega)
      · rw [if_neg e2] at h2; have q2 := of_decide_eq_false h2
        rw [if_neg (by omega)]; exact decide_eq_false (by omega)
theorem lexLt_tot : ∀ x y : Hg, lexLt x y = false → lexLt y x = false → x = y
  | [], [], _, _ => rfl
  | [], _ :: _, h, _ => by cases h
  | _ :: _, [], _, h => by cases h
  | a :: x, b :: y, h1, h2 => by
    unfold lexLt at h1 h2
    by_cases e : a = b
    · rw [if_pos e] at h1; rw [if_pos e.symm] at h2; rw [e, lexLt_tot x y h1 h2]
    · rw [if_neg e] at h1; rw [if_neg (Ne.symm e)] at h2
      have q1 := of_decide_eq_false h1; have q2 := of_decide_eq_false h2; omega
abbrev LexS (l : List Hg) : Prop := l.Pairwise fun x y => lexLt y x = false
theorem lins_perm (x : Hg) : ∀ l : List Hg, (lins x l).Perm (x :: l)
  | [] => List.Perm.refl _
  | y :: r => by
    unfold lins
    split
    · exact ((lins_perm x r).cons y).trans (List.Perm.swap x y r)
    · exact List.Perm.refl _
theorem lsort_perm : ∀ l : List Hg, (lsort l).Perm l
  | [] => List.Perm.refl _
  | x :: r => (lins_perm x (lsort r)).trans ((lsort_perm r).cons x)
theorem lins_sorted (x : Hg) : ∀ l : List Hg, LexS l → LexS (lins x l)
  | [], _ => List.pairwise_singleton _ _
  | y :: r, h => by
    have h1 := List.pairwise_cons.mp h
    unfold lins
    split
    · rename_i c
      refine List.pairwise_cons.mpr ⟨fun z hz => ?_, lins_sorted x r h1.2⟩
      rcases List.mem_cons.mp ((lins_perm x r).mem_iff.mp hz) with e | hz
      · rw [e]; exact lexLt_asym y x c
      · exact h1.1 z hz
    · rename_i c
      have c' : lexLt y x = false := by simpa using c
      refine List.pairwise_cons.mpr ⟨fun z hz => ?_, h⟩
      rcases List.mem_cons.mp hz with e | hz
      · rw [e]; exact c'
      · exact lexLt_tr x y z c' (h1.1 z hz)
theorem lsort_sorted : ∀ l : List Hg, LexS (lsort l)
  | [] => List.Pairwise.nil
  | x :: r => lins_sorted x _ (lsort_sorted r)
theorem lsort_unique {l m : List Hg} (p : m.Perm l) (s : LexS m) : m = lsort l :=
  (p.trans (lsort_perm l).symm).eq_of_pairwise (fun a b _ _ h1 h2 => lexLt_tot a b h2 h1) s (lsort_sorted l)
end R67
namespace L2.Q67
open PySem PySem.Spec PyProof.Rows
/-! ### rules that the hand layer lacks: a power of a great int, a tuple times 1, enumerate of a tuple -/
def CPowB (i j : Int) : Prop := 0 ≤ j ∧ (Builtin.Int.intBits i : Int) * j ≤ 2 ^ 27
theorem op_powB {X : Cx} : OpR X (binaryOp .Pow) (rI CPowB fun i j => .int (i ^ j.toNat)) := opI fun _ _ _ _ _ _ _ hc q => pow_int hc.1 hc.2 q
theorem mul_one_meets (l : Addr) (its : Array Value) (n : Nat) (dd : Option Addr) (sl : Array (Option Value)) (u : Tok) :
    Meets (Builtin.«tuple.__mul__» ⟨[.ref l, .int 1 u], []⟩) (fun _ R s => s.heap.get? l = some { cls := .type "tuple", dict := dd, data := .seq its n, slots := sl } ∧ R (.ok (.ret (Value.ref l))) s) :=
  .of_wp fun prog w A R s h => by
    obtain ⟨hp, g, d, tk, os⟩ := s; obtain ⟨hl, h⟩ := h; have f1 := AutoSeq1.idx_int
    have c1 : (its.isEmpty || (1 : Int) == 1) = true := by cases its.isEmpty <;> rfl
    wp_walk using AutoSeq1.wpAny_loadPart' hl
    repeat (first
      | exact ⟨_, rfl, h⟩
      | (refine wpAny_ite_false (decide_eq_false (by decide)) ?_; wp_walk using AutoSeq1.wpAny_loadPart' hl)
      | (refine wpAny_ite_true (decide_eq_true c1) ?_; wp_walk using AutoSeq1.wpAny_loadPart' hl)
      | (refine wpAny_ite ?_; rw [if_pos c1]; wp_walk using AutoSeq1.wpAny_loadPart' hl))
def rRepO (K : PySem.W.Frag) : R2 := fun x y H Q => ∃ l xs, x = .ref l ∧ y = .int 1 ∧ SqT K H l xs ∧ Q (.ref l) H
theorem op_repO {X : Cx} : OpR X (binaryOp .Mult) (rRepO X.K) := by
  rintro pn s σ H x y v u Q I rx ry ⟨l, xs, rfl, rfl, hT, q⟩
  cases rx; obtain ⟨t, rfl⟩ := ry
  obtain ⟨zs, r, ⟨⟨cls, dd, data, sl⟩, ho, ec, n, ed⟩, _⟩ := I.tuple hT
  simp only at ec ed
  subst ec; subst ed
  exact wpAny_binaryOp_repeat_ref (T := "tuple") (U := "int") (by decide) ⟨_, ho, rfl⟩ (fun s' => typeIs_int s' 1 t) noFill_tuple_mul F.fills_int_mul F.slot_int_rmul repeat_tuple F.slot_int_index.lookup
    (call_meets F.slot_int_rmul (typeIs_int s 1 t) F.entry_int_rmul (F.args_int_rmul_2 _ _) (int_rmul_tuple 1 t l zs.toArray n dd sl)
      ⟨ho, rfl, ⟨_, ho, rfl⟩, call_meets F.slot_tuple_mul ⟨_, ho, rfl⟩ F.entry_tuple_mul (F.args_tuple_mul_2 _ _) (mul_one_meets l zs.toArray n dd sl t) ⟨ho, ⟨.ref l, H, I, rfl, q⟩⟩⟩)
/-- a tuple times a written number from 1 on -/
def rRepA : R2 := fun x y H Q => ∃ l k xs, x = .ref l ∧ y = .int k ∧ H l = some (.tup xs) ∧ xs ≠ [] ∧ 1 ≤ k ∧ k ≤ 1000 ∧ xs.length ≤ 1000 ∧ (∀ H' p, Same H H' → H' p = some (.tup (List.replicate k.toNat xs).flatten) → Q (.ref p) H')
theorem op_repA {X : Cx} : OpR X (binaryOp .Mult) rRepA := by
  rintro pn s σ H x y v u Q I rx ry ⟨l, k, xs, ex, ey, hT, hne, h1, h2, hz, q⟩
  by_cases e : k = 1
  · subst e
    refine op_repO pn s σ H x y v u Q I rx ry ⟨l, xs, ex, ey, .inl (.inl hT), q H l (Same.refl H) ?_⟩
    rw [show (List.replicate (1 : Int).toNat xs).flatten = xs by simp]
    exact hT
  · exact op_repT pn s σ H x y v u Q I rx ry ⟨l, k, xs, ex, ey, .inl (.inl hT), hne, by omega, h2, hz, fun p np => q _ p (fun b o z => by rw [upd_ne (ne_of_none z np)]; exact z) upd_same⟩
end L2.Q67
namespace L2.Q67
open PySem PySem.Spec PyProof.Rows
/-! ### enumerate of a tuple -/
theorem enum_new1 {v : Value} {o : Obj} {G : Heap → Prop} (B : Begins v o G) : Meets (Builtin.«enumerate.__new__» ⟨[.type "enumerate", v], []⟩) (fun _ R s => G s.heap ∧
      R (.ok (.ret (.ref (s.heap.push o).objs.size))) { s with heap := (s.heap.push o).push { cls := .type "enumerate", data := .fields #[.none, .bool false, .ref s.heap.objs.size, rawInt 0, .none, .none] } }) :=
  .of_wp fun pr w A R s h => by
    obtain ⟨hp, g, d, tk, os⟩ := s; obtain ⟨hG, h⟩ := h; have hsub := sub_enumerate
    have qa : ∀ {A' : Around} {E : Value → Shared → Prop} {Q : Value → Shared → Prop}, Q (.ref hp.objs.size) ⟨hp.push o, g, d, tk, os⟩ → wpAny (model pr w) A' (pyIter v) Q E ⟨hp, g, d, tk, os⟩ := fun q => B.iter pr w _ _ ⟨hp, g, d, tk, os⟩ _ hG q
    wp_walk using qa
    refine wpAny_stack_any fun sta => wpAny_pure ?_
    split
    · rename_i c _ _ _ _ _
      cases (c == Value.type "enumerate") <;> (wp_walk using qa; exact ⟨_, rfl, h⟩)
    · wp_walk using qa; exact ⟨_, rfl, h⟩
section
variable {pr : Program} {w : World} {A : Around} {E : Value → Shared → Prop} {s : Shared}
theorem enum_call1 {v : Value} {o : Obj} {G : Heap → Prop} {Q : Value → Shared → Prop} (B : Begins v o G) (hG : G s.heap)
    (h : ∀ hh, IsEnum hh (s.heap.objs.size + 1) s.heap.objs.size 0 .none → hh.get? s.heap.objs.size = some o → (∀ b o, s.heap.get? b = some o → hh.get? b = some o) → Q (.ref (s.heap.objs.size + 1)) { s with heap := hh }) :
    wpAny (model pr w) A (call (.type "enumerate") [v]) Q E s := by
  refine callType_new F.called_enumerate (by decide) (F.typeCall_enumerate_1 _) (F.newCall_enumerate_1 _) (fun obj => F.args_object_init_2 obj _) F.entry_enumerate_new (enum_new1 B) ⟨hG, ?_⟩
  have szl : (s.heap.push o).objs.size = s.heap.objs.size + 1 := Heap.size_push ..
  show _ ∧ _; rw [szl]
  have oe : IsEnum ((s.heap.push o).push { cls := .type "enumerate", data := .fields #[.none, .bool false, .ref s.heap.objs.size, rawInt 0, .none, .none] }) (s.heap.objs.size + 1) s.heap.objs.size 0 .none := by
    have z := Heap.get?_push_size (s.heap.push o) (o := { cls := .type "enumerate", data := .fields #[.none, .bool false, .ref s.heap.objs.size, rawInt 0, .none, .none] }) rfl
    rw [szl] at z; exact z
  exact ⟨⟨_, oe, rfl⟩, h _ oe (Heap.get?_push_of_some _ (Heap.get?_push_size _ B.free)) fun b o x => Heap.get?_push_of_some _ (Heap.get?_push_of_some _ x)⟩
end
/-- the tuple at a as it stands at each turn, each item in a new pair -/
def IteT (K : PySem.W.Frag) (a : Addr) : It :=
  ⟨fun i H => ∃ (xs : List V) (x : V), SqT K H a xs ∧ xs[i]? = some x, fun i H v H' => ∃ T x, v = .ref T ∧ H T = none ∧ H' = upd H T (.tup [.int (i : Nat), x]) ∧ ∀ xs, SqT K H a xs → xs[i]? = some x, fun i H => ∃ xs : List V, SqT K H a xs ∧ xs.length ≤ i⟩
theorem turn_enumT {P : Program} {w : World} {K : PySem.W.Frag} {elts : List Expr} {kk : Nat} {tpos : Pos} (a e it : Addr) :
    Turn P w K (.Tuple elts kk tpos) (IteT K a) [e, it] e (fun i h => (∃ od, IsEnum h e it ((i : Nat) : Int) od) ∧ h.IsTupleIter it a i ∧ e ≠ it ∧ a ≠ it ∧ e ≠ a) where
  mem := by simp
  obj := fun i h sta b mb => by
    obtain ⟨⟨od, oe⟩, ⟨o, oo, cm, od2⟩, _⟩ := sta
    have mem2 : b = e ∨ b = it := by simpa using mb
    rcases mem2 with z | z <;> rw [z]
    · exact ⟨_, oe, fun v q => nomatch q⟩
    · exact ⟨o, oo, fun v q => by rw [od2] at q; cases q⟩
  keep := fun i h hh sta k => let ⟨⟨od, oe⟩, hi, dif, hr⟩ := sta; ⟨⟨od, k e (by simp) _ oe⟩, hi.at fun o q => k it (by simp) o q, dif, hr⟩
  item := by
    intro X eP eW eK cm i pn s σ H E I fre sta gvn
    subst eP eW eK
    obtain ⟨⟨od, oe⟩, oit, dif, dai, dea⟩ := sta
    obtain ⟨xs, x, sq, gx⟩ := gvn
    obtain ⟨zs, rel, p, szl⟩ := I.tuple sq
    obtain ⟨u, gu, ruu⟩ := rel.get gx
    have lte : e < s.heap.objs.size := Heap.lt_size oe
    have lti : it < s.heap.objs.size := by obtain ⟨_, q, _⟩ := oit; exact Heap.lt_size q
    have lt1 : i < zs.toArray.size := by
      rw [List.size_toArray]; exact (List.getElem?_eq_some_iff.mp gu).1
    refine wpAny_pyNext_enum_itemD (Draws.tuple (prog := X.prog) (w := X.w) (A := X.A.in1) (I.ok.hd cm) it a dai zs.toArray) oe ⟨oit, show s.heap.IsTuple a zs.toArray from p⟩ lt1 dif (by simp [dif, dea]) fun y hh tk hy oo hit' isE hsz kp => ?_
    have yeq : y = u := by
      rw [List.getElem?_toArray, gu] at hy; exact (Option.some.inj hy).symm
    subst yeq
    refine ⟨_, rfl, wpAny_letOwnedTupleGo_enum (s := { s with heap := hh, toks := tk + 1 }) oo fun h'' he' sb => ?_⟩
    have hT2 : h''.get? s.heap.objs.size = some { cls := .type "tuple", data := .seq #[.int i tk, y] } := (sb.2 _ (Nat.ne_of_gt lte)).trans isE
    have new : ObjOk X.prog X.w (upd H s.heap.objs.size (.tup [.int (i : Nat), x])) h'' s.heap.objs.size (.tup [.int (i : Nat), x]) := ⟨by show 2 ≤ sizeLine; decide, [.int i tk, y], .cons ⟨_, rfl⟩ (.cons ruu .nil), ⟨_, hT2, rfl, _, rfl⟩⟩
    have Ia : Inv X pn σ (upd H s.heap.objs.size (.tup [.int (i : Nat), x])) { s with heap := h'', toks := tk + 1 } :=
      I.turnedNew (t' := tk + 1) (ch := [e, it]) (fun b ob mb q => (sb.2 b (fun z => mb (by simp [z]))).trans (kp b ob (fun z => mb (by simp [z])) (fun z => mb (by simp [z])) q)) fre (Nat.le_refl _) new
    refine ⟨.ref s.heap.objs.size, _, Ia, rfl, ⟨_, x, rfl, I.hok.fresh (Nat.le_refl _), rfl, fun ys hy => by rw [I.tuple_inj hy sq]; exact gx⟩, ⟨⟨y, ?_⟩, hit'.1.at fun o q => (sb.2 it (Ne.symm dif)).trans q, dif, dai, dea⟩, fun b mb => ?_⟩
    · rw [show ((i + 1 : Nat) : Int) = (i : Int) + 1 by omega]; exact he'
    · have ltb : b < s.heap.objs.size := by
        have mem2 : b = e ∨ b = it := by simpa using mb
        rcases mem2 with z | z <;> rw [z] <;> assumption
      rw [upd_ne (Nat.ne_of_lt ltb)]; exact (fre b mb).1
  done := by
    intro X eP eW eK cm i pn s σ H E I fre sta gvn
    subst eP eW eK
    obtain ⟨⟨od, oe⟩, oit, dif, dai, dea⟩ := sta
    obtain ⟨xs, sq, gx⟩ := gvn
    obtain ⟨zs, rel, p, szl⟩ := I.tuple sq
    obtain ⟨y0, y1, y2, y3, y4, y5⟩ := fre it (by simp)
    have ln := rel.length
    have isE : s.TypeIs (.ref e) "enumerate" := ⟨_, oe, rfl⟩
    unfold pyNext
    refine wpAny_bind (wpAny_attempt (wpAny_callSpecial?_slot (name := Str.ofString "__next__") isE F.slot_enumerate_next (wpAny_call_entry F.slot_enumerate_next isE F.entry_enumerate_next ?_ (F.args_enumerate_next_1 _))))
    show wpAny _ _ (field (.ref e) 2 >>= _) _ _ _
    refine wpAny_bind (wpAny_field oe rfl (x := .ref it) rfl ?_)
    refine wpAny_bind (wpAny_nextOf_tuple_end (I.ok.hd cm) oit (show s.heap.IsTuple a zs.toArray from p) (by simp; omega) fun hh x eb hx' => ?_)
    obtain ⟨o, oo, hc'⟩ := hx'
    refine wpAny_bind (wpAny_isInstance (T := "StopIteration") (b := true) ⟨o, oo, hc'⟩ isSubtype_stop ?_)
    exact wpAny_pure ⟨rfl, I.turned (t' := s.toks) (fun b o mb q => eb b o mb q) y0 y1 y3 y4 y5⟩
  self := fun A i s Q E sta h => let ⟨⟨_, oe⟩, _⟩ := sta; wpAny_pyIter_enum oe h
def iEnumT (K : PySem.W.Frag) (ta : TA) : TI := fun σ H R => ta σ H fun vs H1 => ∃ a xs, vs = [.ref a] ∧ SqT K H1 a xs ∧ R (IteT K a) H1
theorem pi_enumT {X : Cx} {e : Expr} {ta : TA} {p pos tpos : Pos} {elts : List Expr} {kk : Nat} (gvn : Gl X "enumerate") (hm : X.mg "enumerate" = none) (ha : PA X [e] ta) (hs : starEach [e] X.env = [(false, eval e X.env)] := by rfl) :
    PI X (.Tuple elts kk tpos) (.Call (.Name "enumerate" p) [e] [] pos) (iEnumT X.K ta) := by
  refine ⟨fun pn s σ H R I h => ?_⟩
  refine Call_ (ld_blt I gvn hm boot_enumerate (PyProof.Rows.callWith_type1 (thn (ha.run pos pn s σ H _ I h) fun uz sa ⟨vs, H1, Ia, ra, qa⟩ => ?_) hs rfl))
  obtain ⟨a, xs, ex, sq, q⟩ := qa
  subst ex
  cases ra with
  | cons r rr =>
    cases rr; cases r
    obtain ⟨zs, rel, p', szl⟩ := Ia.tuple sq
    have lta : a < sa.heap.objs.size := IsTup.lt p'
    refine enum_call1 (begins_tuple a zs.toArray) (show sa.heap.IsTuple a zs.toArray from p') fun hh oe oit kp => wpAny_pyIter_enum oe ?_
    have Ib : Inv X pn σ H1 { sa with heap := hh } := Ia.kept (t' := sa.toks) kp
    refine ⟨sa.heap.objs.size + 1, [sa.heap.objs.size + 1, sa.heap.objs.size], _, _, H1, rfl, Ib, turn_enumT a (sa.heap.objs.size + 1) sa.heap.objs.size, ⟨⟨.none, oe⟩, ⟨_, oit, rfl, rfl⟩, Nat.succ_ne_self _, Nat.ne_of_lt lta, Ne.symm (Nat.ne_of_lt (Nat.lt_succ_of_lt lta))⟩, fun b mb => ?_, q⟩
    have leb : sa.heap.objs.size ≤ b := by
      have mem2 : b = sa.heap.objs.size + 1 ∨ b = sa.heap.objs.size := by simpa using mb
      rcases mem2 with z | z <;> rw [z]
      · exact Nat.le_add_right _ _
      · exact Nat.le_refl _
    exact Ia.fpOk leb (Ia.hok.fresh leb)
theorem walk_enumT {K : PySem.W.Frag} {a : Addr} {xs : List V} : Walk (IteT K a) xs.length (fun H => SqT K H a xs) (YPair (fun i => some (.int (i : Nat))) (fun i => xs[i]?)) := by
  refine ⟨fun j _ lj q => ⟨xs, xs[j], q, by simp [lj]⟩, fun _ q => ⟨xs, q, Nat.le_refl _⟩, fun i H v H' _ q y => ?_⟩
  obtain ⟨T, x, k1, k2, k3, k4⟩ := y
  exact ⟨T, .int (i : Nat), x, k1, k2, k3, rfl, k4 xs q⟩
theorem walk_zipT {K : PySem.W.Frag} {a b : Addr} {xs ys : List V} {n : Nat} (hn : n = min xs.length ys.length) : Walk (RZ.ItzT K a b) n (fun H => SqT K H a xs ∧ SqT K H b ys) (YPair (fun i => xs[i]?) (fun i => ys[i]?)) := by
  subst hn
  refine ⟨fun j _ lj q => ?_, fun _ q => ⟨xs, ys, q.1, q.2, by omega⟩, fun j G v G' _ q y => ?_⟩
  · have k1 : j < xs.length := by omega
    have k2 : j < ys.length := by omega
    exact ⟨xs, ys, xs[j], ys[j], q.1, q.2, by simp [k1], by simp [k2]⟩
  · obtain ⟨T, x, z, k1, k2, k3, k4, k5⟩ := y
    exact ⟨T, x, z, k1, k2, k3, k4 xs q.1, k5 ys q.2⟩
end L2.Q67
namespace L2.Q67
open PySem PySem.Spec PyProof.Rows
/-! ### max of a tuple of ints with a default -/
section
variable {prog : Program} {w : World} {A : Around} {R : Result → Shared → Prop} {I : Addr} {fp wrt : List Addr} {num : Nat} {P : Nat → Value → Prop} {St : Nat → Heap → Prop}
theorem mxd_name : (toString "max" ++ toString ".loop" : String) = "max.loop" := by decide
theorem mxd_loop (W : Walks prog w A.in1 I fp wrt num P St) (bt : Nat → Nat → Bool) (cm : CmpOf prog w A.in1 .Gt P bt) (S : Addr) (Sf : S ∉ fp) (dv : Value) : ∀ (k j : Nat) (s : Shared) (bv : Value) (c : Nat), num - (j + 1) = k → j + 1 ≤ num → St (j + 1) s.heap → P (argBest bt j) bv →
    s.heap.get? S = some { cls := .type "list", dict := none, data := .seq #[bv, bv] c, slots := #[] } → (∀ v hh tk, P (argBest bt (num - 1)) v → (∀ b o, b ∉ wrt → b ≠ S → s.heap.get? b = some o → hh.get? b = some o) → R (.ok (.ret v)) { s with heap := hh, toks := tk }) →
    codeAny (model prog w) A (.builtin "max.loop" ⟨[.ref I, .none, .ref S], [(Str.ofString "default", dv)]⟩) R s := by
  have Sw : S ∉ wrt := fun h => Sf (W.sub _ h)
  intro k
  induction k with
  | zero =>
    intro j s bv c ek lj sta Pb oS kR
    have ein : j + 1 = num := by omega
    refine codeAny_builtin F.entry_max_loop ?_; rw [Around.under_plainId F.plain_max_loop _]
    show wpAny _ A.in1 (seqItems? (.ref S) >>= _) _ _ s; refine wpAny_bind (wpAny_seqItems oS rfl ?_)
    show wpAny _ A.in1 (tryCatch (pyNext (.ref I)) _ >>= _) _ _ s; refine wpAny_bind (wpAny_tryCatch (W.done s _ _ (ein ▸ sta) fun hh tk ek1 => ?_))
    have oS2 := ek1 S _ Sw oS
    show wpAny _ A.in1 (updateSeq S (fun _ => #[]) >>= _) _ _ _
    refine wpAny_bind (wpAny_updateSeq oS2 rfl (wpAny_bind (wpAny_letGo (wpAny_pure ?_))))
    exact kR bv _ tk (by rw [← ein]; exact Pb) fun b o nw nS ev => (Heap.get?_update_other _ _ (Ne.symm nS)).trans (ek1 b o nw ev)
  | succ k ih =>
    intro j s bv c ek lj sta Pb oS kR
    have ltj : j + 1 < num := by omega
    refine codeAny_builtin F.entry_max_loop ?_; rw [Around.under_plainId F.plain_max_loop _]
    show wpAny _ A.in1 (seqItems? (.ref S) >>= _) _ _ s; refine wpAny_bind (wpAny_seqItems oS rfl ?_)
    show wpAny _ A.in1 (tryCatch (pyNext (.ref I)) _ >>= _) _ _ s; refine wpAny_bind (wpAny_tryCatch (W.item (j + 1) s _ _ ltj sta fun v hh tk Pv sta2 ek1 => ?_))
    have oS2 := ek1 S _ Sw oS
    show wpAny _ A.in1 (tryCatch (holding [v, v] (richCompare .Gt v bv >>= _)) _ >>= _) _ _ _
    refine wpAny_bind (wpAny_tryCatch (wpAny_holding (wpAny_bind (cm (j + 1) (argBest bt j) v bv _ _ _ Pv Pb (wpAny_bind (wpAny_holding (wpAny_truthy_bool (wpAny_bind (wpAny_letGo (wpAny_pure ?_))))))))))
    cases mb : bt (j + 1) (argBest bt j) with
    | true =>
      simp only [if_true]; refine wpAny_bind (wpAny_updateSeq oS2 rfl (wpAny_bind (wpAny_letGo ?_))); rw [mxd_name]
      refine wpAny_pure ⟨plainId_quiet F.plain_max_loop _, ih (j + 1) _ v _ (by omega) ltj (W.frame _ _ _ sta2 fun b hbf o ev => (Heap.get?_update_other _ _ (fun h : S = b => Sf (by rw [h]; exact hbf))).trans ev) (by simp only [argBest, mb, if_true]; exact Pv) (Heap.get?_update_self _ oS2 rfl) fun v2 hb2 tk2 Pv2 ek2 => ?_⟩
      exact kR v2 hb2 tk2 Pv2 fun b o nw nS ev => ek2 b o nw nS ((Heap.get?_update_other _ _ (Ne.symm nS)).trans (ek1 b o nw ev))
    | false =>
      simp only [Bool.false_eq_true, if_false]; refine wpAny_bind (wpAny_letGo ?_); rw [mxd_name]
      refine wpAny_pure ⟨plainId_quiet F.plain_max_loop _, ih (j + 1) _ bv c (by omega) ltj sta2 (by simp only [argBest, mb, Bool.false_eq_true, if_false]; exact Pb) oS2 fun v2 hb2 tk2 Pv2 ek2 => ?_⟩
      exact kR v2 hb2 tk2 Pv2 fun b o nw nS ev => ek2 b o nw nS (ek1 b o nw ev)
theorem mxd_first (W : Walks prog w A.in1 I fp wrt num P St) (bt : Nat → Nat → Bool) (cm : CmpOf prog w A.in1 .Gt P bt) (S : Addr) (Sf : S ∉ fp) (dv : Value) {s : Shared} {c : Nat} (sta : St 0 s.heap)
    (oS : s.heap.get? S = some { cls := .type "list", dict := none, data := .seq #[] c, slots := #[] })
    (kR : ∀ v hh tk, (0 < num ∧ P (argBest bt (num - 1)) v ∨ num = 0 ∧ v = dv) → (∀ b o, b ∉ wrt → b ≠ S → s.heap.get? b = some o → hh.get? b = some o) → R (.ok (.ret v)) { s with heap := hh, toks := tk }) :
    codeAny (model prog w) A (.builtin "max.loop" ⟨[.ref I, .none, .ref S], [(Str.ofString "default", dv)]⟩) R s := by
  have Sw : S ∉ wrt := fun h => Sf (W.sub _ h)
  refine codeAny_builtin F.entry_max_loop ?_; rw [Around.under_plainId F.plain_max_loop _]
  show wpAny _ A.in1 (seqItems? (.ref S) >>= _) _ _ s; refine wpAny_bind (wpAny_seqItems oS rfl ?_)
  show wpAny _ A.in1 (tryCatch (pyNext (.ref I)) _ >>= _) _ _ s
  by_cases en : 0 < num
  · refine wpAny_bind (wpAny_tryCatch (W.item 0 s _ _ en sta fun v hh tk Pv sta2 ek1 => ?_))
    have oS2 := ek1 S _ Sw oS
    show wpAny _ A.in1 (updateSeq S (fun _ => #[v, v]) >>= _) _ _ _; refine wpAny_bind (wpAny_updateSeq oS2 rfl ?_); rw [mxd_name]
    refine wpAny_pure ⟨plainId_quiet F.plain_max_loop _, mxd_loop W bt cm S Sf dv _ 0 _ v _ rfl en (W.frame _ _ _ sta2 fun b hbf o ev => (Heap.get?_update_other _ _ (fun h : S = b => Sf (by rw [h]; exact hbf))).trans ev) Pv (Heap.get?_update_self _ oS2 rfl) fun v2 hb2 tk2 Pv2 ek2 => ?_⟩
    exact kR v2 hb2 tk2 (.inl ⟨en, Pv2⟩) fun b o nw nS ev => ek2 b o nw nS ((Heap.get?_update_other _ _ (Ne.symm nS)).trans (ek1 b o nw ev))
  · have z0 : num = 0 := by omega
    refine wpAny_bind (wpAny_tryCatch (W.done s _ _ (by rw [z0]; exact sta) fun hh tk ek1 => ?_))
    exact wpAny_bind (wpAny_rule (wpAny_pure (kR dv hh tk (.inr ⟨z0, rfl⟩) fun b o nw nS ev => ek1 b o nw ev)))
end
section
variable {prog : Program} {w : World} {A : Around} {E : Value → Shared → Prop} {s : Shared}
theorem mxd_args (a d : Value) : argsOk "max" ⟨[a], [(Str.ofString "default", d)]⟩ := by unfold argsOk; kernel_rfl
theorem mxd_call {x dv : Value} {Q : Value → Shared → Prop}
    (h : wpAny (model prog w) A.in1 (pyIter x) (fun it s₂ => ∃ I fp wrt num P St bt, it = .ref I ∧ Walks prog w A.in1 I fp wrt num P St ∧ St 0 s₂.heap ∧ (∀ b ∈ fp, b < s₂.heap.objs.size) ∧ CmpOf prog w A.in1 .Gt P bt ∧
      ∀ v hh tk, (0 < num ∧ P (argBest bt (num - 1)) v ∨ num = 0 ∧ v = dv) → (∀ b o, b ∉ wrt → s₂.heap.get? b = some o → hh.get? b = some o) → Q v { s₂ with heap := hh, toks := tk }) E s) :
    wpAny (model prog w) A (call (.builtin "max") [x] [(Str.ofString "default", dv)]) Q E s := by
  refine wpAny_call (codeAny_call_builtin F.plain_max F.entry_max ?_)
  have goal : wpAny (model prog w) A.in1 (Builtin.«max» ⟨[x], [(Str.ofString "default", dv)]⟩) (fun fin s' => match fin with
      | .done f => (match (Except.ok f : Result) with | .ok (.ret v) => Q v s' | .ok _ => False | .error ev => E ev s')
      | .again c' => c'.quiet = true ∧ codeAny (model prog w) A c' (fun r s' => match r with | .ok (.ret v) => Q v s' | .ok _ => False | .error ev => E ev s') s') E s := by
    show wpAny _ A.in1 (Builtin.Builtins.bindParams "max" ["key", "default"] 0 ⟨[], [(Str.ofString "default", dv)]⟩ >>= _) _ _ s
    refine wpAny_bind (wpAny_of_eq (show Builtin.Builtins.bindParams "max" ["key", "default"] 0 ⟨[], [(Str.ofString "default", dv)]⟩ = pure [none, some dv] from rfl) (wpAny_bind (wpAny_pure (wpAny_bind (wpAny_mono h (fun it s₂ h₂ => ?_) fun _ _ ev => ev)))))
    obtain ⟨I, fp, wrt, num, P, St, bt, rfl, W, sta, lfp, cm, kQ⟩ := h₂
    refine wpAny_bind (wpAny_newObj_type ?_)
    have Sf : s₂.heap.objs.size ∉ fp := fun mm => Nat.lt_irrefl _ (lfp _ mm)
    rw [mxd_name]
    refine wpAny_pure ⟨plainId_quiet F.plain_max_loop _, mxd_first W bt cm s₂.heap.objs.size Sf dv (W.frame _ _ _ sta fun b _ o ev => Heap.get?_push_of_some _ ev) (Heap.get?_push_size _ rfl) fun v hh tk Pv ek => ?_⟩
    exact kQ v hh tk Pv fun b o nw ev => ek b o nw (Nat.ne_of_lt (Heap.lt_size ev)) (Heap.get?_push_of_some _ ev)
  simp only [checkBuiltinCall, F.kind_max]
  have oka := mxd_args x dv
  cases esig : Manifest.signature? "max" with
  | none => exact wpAny_pure goal
  | some sg =>
    have ha' : Bind.checkArgs "max" sg ⟨[x], [(Str.ofString "default", dv)]⟩ = pure () := by simpa only [argsOk, esig] using oka
    simp only [ha']; exact wpAny_pure goal
theorem mxd_ints {a : Addr} {vz : List Value} {ns : List Int} {dv : Value} {Q : Value → Shared → Prop} (nh : A.handled = none) (tt : s.heap.IsTuple a vz.toArray) (ia : IntsAre vz ns)
    (h : ∀ v hh tk, (∀ b o, s.heap.get? b = some o → hh.get? b = some o) → (ns = [] ∧ v = dv ∨ ∃ M t, v = .int M t ∧ M ∈ ns ∧ ∀ y, y ∈ ns → y ≤ M) → Q v { s with heap := hh, toks := tk }) :
    wpAny (model prog w) A (call (.builtin "max") [.ref a] [(Str.ofString "default", dv)]) Q E s := by
  obtain ⟨ys, ev⟩ := ia.allInts.items
  have en : numsOf (intItems ys).toList = ns := by rw [← ev]; exact ia.numsOf
  rw [nums_intItems] at en
  subst en
  rw [ev] at tt
  have ltj : a < s.heap.objs.size := by obtain ⟨o, z, _⟩ := tt; exact Heap.lt_size z
  refine mxd_call (wpAny_pyIter_tuple tt ?_)
  refine ⟨s.heap.objs.size, _, _, _, _, _, _, rfl, Walks.tuple (A := A.in1) nh s.heap.objs.size a (Nat.ne_of_lt ltj) (intItems ys), ⟨⟨_, Heap.get?_push_size _ rfl, rfl, rfl⟩, Heap.IsTuple.at tt fun o z => Heap.get?_push_of_some _ z⟩, fun b mb => ?_, CmpOf.ints_gt (numAt ys) (fun _ _ => intItems_at), fun v hh tk Pv ek => ?_⟩
  · show b < (s.heap.push _).objs.size
    rw [Heap.size_push]
    rcases List.mem_cons.mp mb with z | mb
    · rw [z]; exact Nat.lt_succ_self _
    · rcases List.mem_cons.mp mb with z | mb
      · rw [z]; exact Nat.lt_succ_of_lt ltj
      · cases mb
  · refine h v hh tk (fun b o z => ek b o (fun mm => ?_) (Heap.get?_push_of_some _ z)) ?_
    · rw [List.mem_singleton.mp mm] at z; exact absurd (Heap.lt_size z) (Nat.lt_irrefl _)
    · have szi : (intItems ys).size = ys.size := by simp [intItems]
      rw [szi] at Pv
      rcases Pv with ⟨z0, hv⟩ | ⟨z0, hv⟩
      · obtain ⟨t, rfl⟩ := intItems_at hv
        obtain ⟨z1, z2⟩ := argBest_gt (numAt ys) (ys.size - 1)
        refine .inr ⟨_, t, rfl, ?_, fun y hy => ?_⟩
        · rw [numAt_eq]
          refine PySem.getD_mem ?_
          rw [List.length_map, Array.length_toList]; omega
        · obtain ⟨j, lj, rfl⟩ := mem_getD hy
          rw [List.length_map, Array.length_toList] at lj
          rw [← numAt_eq]; exact z2 j (by omega)
      · refine .inl ⟨?_, hv⟩
        rw [List.map_eq_nil_iff]; exact List.eq_nil_of_length_eq_zero (by rw [Array.length_toList]; exact z0)
end
def rMaxD (K : PySem.W.Frag) : List V → List V → Hp → VK → Prop := fun vs zs H Q => ∃ (a : Addr) (ns : List Int) (d : Int), vs = [.ref a] ∧ zs = [.int d] ∧ SqT K H a (ns.map V.int) ∧ ∀ m, (ns = [] ∧ m = d ∨ m ∈ ns ∧ ∀ y, y ∈ ns → y ≤ m) → Q (.int m) H
theorem cr_maxD {X : Cx} (goal : X.calm = true) : CallRK X (.builtin "max") [Str.ofString "default"] (rMaxD X.K) := by
  intro pn s σ H vs zs uz ws Q I r r2 h
  obtain ⟨a, ns, d, rfl, rfl, hs, q⟩ := h
  obtain ⟨vz, rel, ln, _⟩ := I.tuple hs
  rw [Vals.ref1 r]
  obtain ⟨u2, rfl, t2, rfl⟩ : ∃ u2, ws = [u2] ∧ RelV (.int d) u2 := vals1 r2
  refine mxd_ints (I.ok.hd goal) (show s.heap.IsTuple a vz.toArray from ln) rel.ints fun v hh tk ek hv => ?_
  rcases hv with ⟨z0, rfl⟩ | ⟨M, t, rfl, z1, z2⟩
  · exact ⟨.int d, H, I.kept ek, ⟨_, rfl⟩, q d (.inl ⟨z0, rfl⟩)⟩
  · exact ⟨.int M, H, I.kept ek, ⟨_, rfl⟩, q M (.inr ⟨z1, z2⟩)⟩
end L2.Q67
namespace L2.Q67
open PySem PySem.Spec PyProof.Rows R67
/-! ### sorted of tuples of ints of any lengths; of a dict whose keys are such tuples -/
theorem swo_core (k : Value → List Int) : SrtO.Swo fun v u => lexLt (k v) (k u) := ⟨fun x y h => lexLt_asym _ _ h, fun x y z h1 h2 => lexLt_tr _ _ _ h1 h2⟩
section
variable {prog : Program} {w : World} {A : Around} {E : Value → Shared → Prop} {s : Shared}
theorem kat_ints {fin : Bool} {Q : Bool → Shared → Prop} : ∀ (uz ws : List Value) (ns ms : List Int) (i : Nat), IntsAre uz ns → IntsAre ws ms → (fin = decide (ns.length < ms.length)) → Q (lexLt ns ms) s → PySem.W.KatLex prog w A true fin Q (uz.zip ws) i s
  | [], [], _, _, i, .nil, .nil, mf, h => PySem.W.kat_nil (by rw [mf]; exact h)
  | [], _ :: _, _, _ :: ms, i, .nil, .cons _ _ _, mf, h => PySem.W.kat_nil (by rw [mf, decide_eq_true (show ([] : List Int).length < (_ :: ms).length from Nat.succ_pos _)]; exact h)
  | _ :: _, [], _ :: ns, _, i, .cons _ _ _, .nil, mf, h => PySem.W.kat_nil (by rw [mf, decide_eq_false (show ¬ (_ :: ns).length < ([] : List Int).length from Nat.not_lt_zero _)]; exact h)
  | _ :: uz, _ :: ws, n :: ns, m :: ms, i, .cons _ t a, .cons _ u b, mf, h => by
    refine PySem.W.kat_cons (SeqAt.EqAt.int_int n t m u prog w _ _ (PySem.W.kat_go (fun e => ?_) (fun e => ?_)))
    · have ee2 : n = m := by simpa using e
      refine PySem.W.kat_yes (kat_ints uz ws ns ms (i + 1) a b (by rw [mf, List.length_cons, List.length_cons]; exact decide_eq_decide.mpr (by omega)) ?_)
      have z : lexLt (n :: ns) (m :: ms) = lexLt ns ms := by show (if n = m then _ else _) = _; rw [if_pos ee2]
      rw [← z]; exact h
    · have ee2 : ¬ n = m := by simpa using e
      have z : lexLt (n :: ns) (m :: ms) = decide (n < m) := by show (if n = m then _ else _) = _; rw [if_neg ee2]
      rw [z] at h
      by_cases h0 : i = 0
      · subst h0; exact PySem.W.kat_no (oneLt_int h)
      · have hb : (true && (i == 0)) = false := by simp [h0]
        refine PySem.W.kat_no ?_
        rw [hb]; exact PySem.W.kat_one _ _ (PyProof.Rows.lt_int h)
/-- what an address holds, as ints -/
abbrev tk (h : Heap) (v : Value) : List Int := TS.intsOf h v
theorem core_cmp {vs : List Value} (okp : ∀ v ∈ vs, ∃ ns, TS.TupInts s.heap v ns) : SrtO.Cmp prog w A s (tuples' true) (fun p => p.1 ∈ vs) (SrtO.lt2 fun v u => lexLt (tk s.heap v) (tk s.heap u)) := by
  intro p q mm mm2
  obtain ⟨ns, h1⟩ := okp _ mm
  obtain ⟨ms, h2⟩ := okp _ mm2
  show wpAny (model prog w) A (keyLt' (tuples' true) p.1 q.1) (fun r s' => s' = s ∧ r = lexLt (tk s.heap p.1) (tk s.heap q.1)) (fun _ _ => False) s
  rw [show tk s.heap p.1 = ns from h1.ints, show tk s.heap q.1 = ms from h2.ints]
  obtain ⟨a, zs, e, ⟨o, oo, cc, n, dd⟩, ii⟩ := h1
  obtain ⟨a', its', ee2, ⟨o', ho', hc', n', hd'⟩, hi'⟩ := h2
  rw [e, ee2]
  refine PySem.W.kat_lt oo dd ho' hd' (kat_ints zs.toList its'.toList ns ms 0 ii hi' ?_ ⟨rfl, rfl⟩)
  rw [← ii.length, ← hi'.length, Array.length_toList, Array.length_toList]
theorem tup_kept {h hh : Heap} {v : Value} {ns : List Int} (x : TS.TupInts h v ns) (k : ∀ b o, h.get? b = some o → o.cls = .type "tuple" → hh.get? b = some o) : TS.TupInts hh v ns := by
  obtain ⟨a, zs, e, ⟨o, oo, cc, n, dd⟩, ii⟩ := x
  exact ⟨a, zs, e, ⟨o, k a o oo cc, cc, n, dd⟩, ii⟩
theorem core_firsts {h : Heap} : ∀ {vs : List Value}, (∀ v ∈ vs, ∃ ns, TS.TupInts h v ns ∧ ns ≠ []) → ∃ fs, PySem.W.KatTups h vs fs ∧ fs.length = vs.length ∧ ∀ f ∈ fs, ∃ x t, f = .int x t
  | [], _ => ⟨[], PySem.W.KatTups.nil, rfl, fun f mf => absurd mf (by simp)⟩
  | v :: vs, okp => by
    obtain ⟨fs, h1, h2, h3⟩ := core_firsts (vs := vs) fun u mu => okp u (List.mem_cons_of_mem _ mu)
    obtain ⟨ns, ⟨a, zs, rfl, ⟨o, oo, cc, n, dd⟩, ii⟩, nemp⟩ := okp v List.mem_cons_self
    obtain ⟨x, r, rfl⟩ := List.exists_cons_of_ne_nil nemp
    obtain ⟨t, uz, el⟩ : ∃ t uz, zs.toList = .int x t :: uz := by
      generalize zs.toList = l at ii
      cases ii with
      | cons _ t a => exact ⟨t, _, rfl⟩
    refine ⟨.int x t :: fs, PySem.W.KatTups.cons oo cc dd (by rw [← Array.getElem?_toList, el]; rfl) h1, by rw [List.length_cons, List.length_cons, h2], fun f mf => ?_⟩
    rcases List.mem_cons.mp mf with e | mf
    · exact ⟨x, t, e⟩
    · exact h3 f mf
theorem core_sortable {a : Addr} {vs : List Value} (h0 : 0 < vs.length) (okp : ∀ v ∈ vs, ∃ ns, TS.TupInts s.heap v ns ∧ ns ≠ []) (ha : ∀ o, s.heap.get? a = some o → o.cls ≠ .type "tuple") : SrtO.SortableO prog w A s a vs fun v u => lexLt (tk s.heap v) (tk s.heap u) := by
  intro hh kpp
  have kp : ∀ {v : Value} {ns : List Int}, TS.TupInts s.heap v ns → TS.TupInts hh v ns := fun x => tup_kept x fun b o e c => kpp b o (fun z => by subst z; exact ha o e c) e
  obtain ⟨fs, h1, h2, h3⟩ := core_firsts (h := hh) (vs := vs) fun v mm => let ⟨ns, x, y⟩ := okp v mm; ⟨ns, kp x, y⟩
  refine ⟨tuples' true, fun Q E hq => ?_, ?_⟩
  · refine PySem.W.kat_kind (T := .type "int") h1 (by omega) (fun f mm => ?_) (by rfl) ?_
    · obtain ⟨x, t, rfl⟩ := h3 f mm
      exact PySem.W.Looks.now
    · rw [show (Value.type "int" != Value.type "tuple") = true by first | decide +kernel | rfl | decide]; exact hq
  · have c := core_cmp (prog := prog) (w := w) (A := A) (s := { s with heap := hh }) (vs := vs) fun v mm => let ⟨ns, x, _⟩ := okp v mm; ⟨ns, kp x⟩
    have e : ∀ v ∈ vs, tk hh v = tk s.heap v := fun v mm => by
      obtain ⟨ns, x, _⟩ := okp v mm
      exact ((kp x).ints).trans x.ints.symm
    intro p q hp1 hq1
    refine wpAny_mono (c p q hp1 hq1) (fun r s' z => ⟨z.1, z.2.trans ?_⟩) fun _ _ x => x
    show lexLt (tk hh p.1) (tk hh q.1) = lexLt (tk s.heap p.1) (tk s.heap q.1)
    rw [e _ hp1, e _ hq1]
end
/-- the refs xs are to tuples of the ints cs, one by one -/
def TupH (H : Hp) (x : V) (ns : Hg) : Prop := ∃ t, x = .ref t ∧ H t = some (.tup (ns.map V.int))
def Cores (H : Hp) (xs : List V) (cs : List Hg) : Prop := Paired (TupH H) xs cs
theorem Cores.same {H H' : Hp} {xs : List V} {cs : List Hg} (c : Cores H xs cs) (e : Same H H') : Cores H' xs cs := by
  unfold Cores at c ⊢
  induction c with
  | nil => exact .nil
  | cons h t ih => obtain ⟨a, e1, h1⟩ := h; exact .cons ⟨a, e1, e _ _ h1⟩ ih
theorem Cores.len {H : Hp} {xs : List V} {cs : List Hg} (c : Cores H xs cs) : xs.length = cs.length := Paired.length c
theorem Cores.mem {H : Hp} {xs : List V} {cs : List Hg} (c : Cores H xs cs) : ∀ x ∈ xs, ∃ ns ∈ cs, TupH H x ns := by
  unfold Cores at c
  induction c with
  | nil => intro x mx; cases mx
  | cons h t ih =>
    intro x mx
    rcases List.mem_cons.mp mx with e | mx
    · subst e; exact ⟨_, List.mem_cons_self, h⟩
    · obtain ⟨ns, a, b⟩ := ih x mx; exact ⟨ns, List.mem_cons_of_mem _ a, b⟩
section
variable {X : Cx} {pn : List (Addr × Obj)} {σ : St} {H : Hp} {s : Shared}
theorem cores_tk (I : Inv X pn σ H s) : ∀ {xs : List V} {uz : List Value} {cs : List Hg}, Cores H xs cs → Vals xs uz → uz.map (tk s.heap) = cs
  | _, _, _, .nil, .nil => rfl
  | _, _, _, .cons h t, .cons r q => by
    obtain ⟨a, e, sh⟩ := h
    subst e; cases r
    rw [List.map_cons, cores_tk I t q, show tk s.heap (.ref a) = _ from (tupI_raw I (.inl (.inl sh))).ints]
/-- the sorted refs: their cores are the sorted ones -/
theorem cores_sorted (I : Inv X pn σ H s) {xs : List V} {uz out : List Value} {cs : List Hg} (c : Cores H xs cs) (rel : Vals xs uz) (sh : SrtO.Srtd (fun v u => lexLt (tk s.heap v) (tk s.heap u)) out) (okp : out.Perm uz) :
    Vals (out.map bkV) out ∧ Cores H (out.map bkV) (lsort cs) := by
  obtain ⟨e1, e2⟩ := bkV_refs rel fun x m => let ⟨_, _, t, e, _⟩ := c.mem x m; ⟨t, e⟩
  have h3 : ∀ u ∈ out, ∃ a, u = Value.ref a := fun u mu => e2 u (okp.mem_iff.mp mu)
  have oo : out.map (tk s.heap) = lsort cs := lsort_unique (by rw [← cores_tk I c rel]; exact okp.map _) (List.pairwise_map.mpr sh)
  refine ⟨bkV_vals h3, ?_⟩
  rw [← oo]
  have all : ∀ u ∈ out, TupH H (bkV u) (tk s.heap u) := fun u mu => by
    have mx : bkV u ∈ xs := by rw [e1]; exact List.mem_map.mpr ⟨u, okp.mem_iff.mp mu, rfl⟩
    obtain ⟨ns, _, t, e, h⟩ := c.mem _ mx
    have eu := bkV_ref e
    rw [show tk s.heap u = ns by rw [eu]; exact (tupI_raw I (.inl (.inl h))).ints]
    exact ⟨t, e, h⟩
  clear sh okp oo h3
  unfold Cores
  induction out with
  | nil => exact .nil
  | cons u r ih => exact .cons (all u List.mem_cons_self) (ih fun v mv => all v (List.mem_cons_of_mem _ mv))
theorem cores_raw (I : Inv X pn σ H s) {xs : List V} {uz : List Value} {cs : List Hg} (c : Cores H xs cs) (rel : Vals xs uz) (nemp : ∀ d ∈ cs, d ≠ []) : ∀ v ∈ uz, ∃ ns, TS.TupInts s.heap v ns ∧ ns ≠ [] := fun v mv => by
  obtain ⟨e1, e2⟩ := bkV_refs rel fun x m => let ⟨_, _, t, e, _⟩ := c.mem x m; ⟨t, e⟩
  have mx : bkV v ∈ xs := by rw [e1]; exact List.mem_map.mpr ⟨v, mv, rfl⟩
  obtain ⟨ns, mn, t, e, h⟩ := c.mem _ mx
  rw [bkV_ref e]
  exact ⟨ns, tupI_raw I (.inl (.inl h)), nemp ns mn⟩
/-- sorted(xs), xs a list of tuples of ints -/
def rSortC (K : PySem.W.Frag) : List V → Hp → VK → Prop := fun vs H Q => ∃ (a : Addr) (xs : List V) (cs : List Hg), vs = [V.ref a] ∧ SqL K H a xs ∧ Cores H xs cs ∧ (∀ d ∈ cs, d ≠ []) ∧ ∀ ys p, H p = none → Cores H ys (lsort cs) → Q (.ref p) (upd H p (.lst ys))
theorem cr_sortC : CallR X (.builtin "sorted") (rSortC X.K) := by
  intro pn s σ H vs uz Q I r h
  obtain ⟨a, xs, cs, rfl, sh, c, nemp, q⟩ := h
  obtain ⟨zs, rel, ln, szl⟩ := I.list sh
  rw [Vals.ref1 r]
  have raw := cores_raw I c rel nemp
  refine SrtO.sorted_ord (ltv := fun v u => lexLt (tk s.heap v) (tk s.heap u)) (swo_core _) ln.isList (by rw [← rel.length]; exact szl) (fun h2 h₁ b hb kk => ?_) fun out h1 h2 => ?_
  · have hk : ∀ b o, s.heap.get? b = some o → o.cls = .type "tuple" → h₁.get? b = some o := fun b o e _ => (kk b o e).2
    have S := core_sortable (prog := X.prog) (w := X.w) (A := X.A.in1.in1) (s := { s with heap := h₁ }) (a := b) (vs := zs) (by omega) (fun v mm => let ⟨ns, x, y⟩ := raw v mm; ⟨ns, tup_kept x hk, y⟩) fun o e => by
      have ee2 : some o = some (seqObj "list" zs.toArray 0) := e.symm.trans hb
      cases ee2
      intro z; exact absurd (Value.type.inj z) (by decide)
    have e : ∀ v ∈ zs, tk h₁ v = tk s.heap v := fun v mm => by
      obtain ⟨ns, x, _⟩ := raw v mm
      exact ((tup_kept x hk).ints).trans x.ints.symm
    intro hh kpp
    obtain ⟨κ, k1, k2⟩ := S hh kpp
    refine ⟨κ, k1, fun p q okp hq => wpAny_mono (k2 p q okp hq) (fun r s' z => ⟨z.1, z.2.trans ?_⟩) fun _ _ x => x⟩
    show lexLt (tk h₁ p.1) (tk h₁ q.1) = lexLt (tk s.heap p.1) (tk s.heap q.1)
    rw [e _ okp, e _ hq]
  · obtain ⟨ep, he'⟩ := PyProof.Rows.sortedAll_at s.heap zs out.toArray
    obtain ⟨v1, c1⟩ := cores_sorted I c rel h1 h2.perm
    have hlen : (out.map bkV).length ≤ sizeLine := by
      rw [List.length_map, h2.perm.length_eq, ← rel.length]; exact szl
    exact ⟨.ref _, upd H (s.heap.objs.size + 1) (.lst (out.map bkV)), I.laid (t' := s.toks) (fun _ _ => PyProof.Rows.sortedAll_old) (Nat.le_succ _) ⟨hlen, out, ep, v1, he'⟩, rfl, q _ _ (I.hok.fresh (Nat.le_succ _)) c1⟩
end
end L2.Q67
namespace L2.Q67
open PySem PySem.Spec PyProof.Rows R67
/-! ### sorted(d), d a dict whose keys are tuples of ints -/
/-- a core as a dict's key -/
def ck (c : Hg) : List Key := c.map Sum.inl
theorem ck_kV (c : Hg) : (ck c).map kV = c.map V.int := by unfold ck; rw [List.map_map]; rfl
theorem ck_inj {c d : Hg} (h : ck c = ck d) : c = d := (List.map_inj_right fun x y e => Sum.inl.inj e).mp h
section
variable {X : Cx}
def rSortCD (K : PySem.W.Frag) : List V → Hp → VK → Prop := fun vs H Q => ∃ (a : Addr) (kvs : List (List Key × V)) (cs : List Hg), vs = [V.ref a] ∧ Rd H a (.dT kvs) ∧ kvs.map (·.1) = cs.map ck ∧ (∀ d ∈ cs, d ≠ []) ∧ ∀ ys p, H p = none → Cores H ys (lsort cs) → Q (.ref p) (upd H p (.lst ys))
theorem keys_cores {H : Hp} : ∀ {kvs : List (List Key × V)} {bs : List Addr} {cs : List Hg}, IsKeys H kvs bs → kvs.map (·.1) = cs.map ck → Cores H (bs.map V.ref) cs
  | _, _, [], .nil, _ => .nil
  | _, _, _ :: _, .nil, e => by cases e
  | _, _, [], .cons _ _, e => by cases e
  | _, _, c :: cs, .cons h t, e => by
    rw [List.map_cons, List.map_cons] at e
    obtain ⟨e1, eq2⟩ := List.cons.inj e
    rw [e1, ck_kV] at h
    exact .cons ⟨_, rfl, h⟩ (keys_cores t eq2)
theorem cr_sortCD (cm : X.calm = true) : CallR X (.builtin "sorted") (rSortCD X.K) := by
  intro pn s σ H vs uz Q I r h
  obtain ⟨d, kvs, cs, rfl, dd, ek, nemp, q⟩ := h
  obtain ⟨u, rfl, rr⟩ := r.one
  cases rr
  obtain ⟨z, nsd, ks, prd, o, es, ep, ho, gx, dt, ent, nn⟩ := (show ObjOk X.prog X.w H s.heap d (.dT kvs) from dd.ok I.hok)
  have la : es.size = ks.length := size_of_entries ent
  have lb : kvs.length = ks.length := Paired.length prd
  refine Calls.call_function_entry PyProof.Rows.kind_sorted PyProof.Rows.plain_sorted PyProof.Rows.entry_sorted
    (PyProof.Rows.args_sorted1 _) ?_
  unfold Builtin.«sorted»
  refine wpAny_bind (m := checkCount "sorted" 1 1 _) (wpAny_pure (wpAny_bind (PySem.W.kdu_collect (A := X.A.in1) (kdl_raw nsd gx dt) (I.ok.hd cm) ho (by omega) fun hh tk0 acc kpp itm => ?_)))
  have ea : acc.toList = (ks.map fun x => x.2.1).map Value.ref := by
    have ll : acc.toList.length = ks.length := by rw [Array.length_toList, itm.1]; exact la
    apply List.ext_getElem?
    intro j
    rw [List.getElem?_map, List.getElem?_map]
    cases gj : acc.toList[j]? with
    | none => rw [List.getElem?_eq_none (by have := List.getElem?_eq_none_iff.mp gj; omega)]; rfl
    | some v =>
      obtain ⟨en, gen, vv⟩ := itm.2 j v (by rw [← Array.getElem?_toList]; exact gj)
      have eqe := entry_at ent j
      rw [gen] at eqe
      cases gb : ks[j]? with
      | none => rw [gb] at eqe; exact nomatch (show some en = none from eqe)
      | some b =>
        rw [gb] at eqe
        have eq2 : en = entryOfKey (tupleKind (mixKind X.prog X.w)) b := Option.some.inj eqe
        rw [vv, eq2]; rfl
  have Ia : Inv X pn σ H { s with heap := hh, toks := tk0 } := I.kept kpp
  have c := keys_cores (isKeys_of prd) ek
  have rel : Vals ((ks.map fun x => x.2.1).map V.ref) acc.toList := by rw [ea]; exact vals_refs _
  have szl : acc.toList.length ≤ sizeLine := by rw [← rel.length, List.length_map, List.length_map]; omega
  have raw := cores_raw Ia c rel nemp
  refine wpAny_bind (wpAny_newList ?_ szl)
  have oL : (hh.push (seqObj "list" acc.toList.toArray 0)).get? hh.objs.size = some (seqObj "list" acc.toList.toArray 0) := Heap.get?_push_size _ rfl
  show wpAny _ _ _ _ _ { s with heap := hh.push (seqObj "list" acc.toList.toArray 0), toks := tk0 }
  have kq : ∀ b o, hh.get? b = some o → o.cls = .type "tuple" → (hh.push (seqObj "list" acc.toList.toArray 0)).get? b = some o := fun b o e _ => Heap.get?_push_of_some _ e
  refine wpAny_bind (wpAny_holding (wpAny_call_entry PyProof.Rows.slot_list_sort ⟨_, oL, rfl⟩ PyProof.Rows.entry_list_sort
    (SrtO.list_sort_ord (s := { s with heap := hh.push (seqObj "list" acc.toList.toArray 0), toks := tk0 }) (ltv := fun v u => lexLt (tk hh v) (tk hh u)) (swo_core _) oL szl (fun h2 => ?_) fun out h1 h2 => ⟨_, rfl, ?_⟩) (PyProof.Rows.args_list_sort _)))
  · have S := core_sortable (prog := X.prog) (w := X.w) (A := X.A.in1.in1) (s := { s with heap := hh.push (seqObj "list" acc.toList.toArray 0), toks := tk0 }) (a := hh.objs.size) (vs := acc.toList) (by omega) (fun v hm => let ⟨ns, x, y⟩ := raw v hm; ⟨ns, tup_kept x kq, y⟩) fun o e => by
      have e9 : some o = some (seqObj "list" acc.toList.toArray 0) := e.symm.trans oL
      cases e9
      intro z; exact absurd (Value.type.inj z) (by decide)
    have e : ∀ v ∈ acc.toList, tk (hh.push (seqObj "list" acc.toList.toArray 0)) v = tk hh v := fun v hm => by
      obtain ⟨ns, x, _⟩ := raw v hm
      exact ((tup_kept x kq).ints).trans x.ints.symm
    intro hb2 keep
    obtain ⟨κ, k1, k2⟩ := S hb2 keep
    refine ⟨κ, k1, fun p q hp hq => wpAny_mono (k2 p q hp hq) (fun r s' z => ⟨z.1, z.2.trans ?_⟩) fun _ _ x => x⟩
    show lexLt (tk (hh.push (seqObj "list" acc.toList.toArray 0)) p.1) (tk (hh.push (seqObj "list" acc.toList.toArray 0)) q.1) = lexLt (tk hh p.1) (tk hh q.1)
    rw [e _ hp, e _ hq]
  · obtain ⟨e9, he'⟩ := PyProof.Rows.sortedHeap_at (vs := acc.toList) (out := out.toArray) oL
    obtain ⟨v1, c1⟩ := cores_sorted Ia c rel h1 h2.perm
    have hlen : (out.map bkV).length ≤ sizeLine := by rw [List.length_map, h2.perm.length_eq]; exact szl
    refine wpAny_pure ⟨_, rfl, .ref hh.objs.size, upd H hh.objs.size (.lst (out.map bkV)), Ia.laid (t' := tk0) (fun b u e => ?_) (Nat.le_refl _) (show ObjOk X.prog X.w _ _ _ (.lst (out.map bkV)) from ⟨hlen, out, e9, v1, he'⟩), rfl, q _ _ (Ia.hok.fresh (Nat.le_refl _)) c1⟩
    have gb : b < hh.objs.size := Heap.lt_size e
    rw [PyProof.Rows.sortedHeap_old (Nat.ne_of_lt gb) (by rw [size_push']; exact Nat.lt_succ_of_lt gb)]
    exact Heap.get?_push_of_some _ e
end
end L2.Q67
namespace L2.Q67
open PySem PySem.Spec PyProof.Rows R67
/-! ### short words: a def as its callers see it; comprehensions that only read -/
def topS (i : Nat) : Stmt := PySem.Challenge.pw_ringstairs_k67_whole_least_cores_of_a_bo.main.body.getD i (.Pass ⟨0, 0, 0, 0⟩)
/-- the built-in names that the text uses are no names of the module -/
structure Bi (mg : Str → Option Value) : Prop where
  len : mg "len" = none
  range : mg "range" = none
  zip : mg "zip" = none
  all : mg "all" = none
  any : mg "any" = none
  isinstance : mg "isinstance" = none
  tuple : mg "tuple" = none
  sorted : mg "sorted" = none
  enumerate : mg "enumerate" = none
  max : mg "max" = none
  min : mg "min" = none
  sum : mg "sum" = none
  list : mg "list" = none
  int : mg "int" = none
  bool : mg "bool" = none
  abs : mg "abs" = none
theorem bt_all : bootBuiltins "all" = some (.builtin "all") := by decide +kernel
theorem bt_any : bootBuiltins "any" = some (.builtin "any") := by decide +kernel
theorem bt_isinstance : bootBuiltins "isinstance" = some (.builtin "isinstance") := by decide +kernel
theorem bt_tuple : bootBuiltins "tuple" = some (.type "tuple") := by decide +kernel
theorem bt_sorted : bootBuiltins "sorted" = some (.builtin "sorted") := by decide +kernel
theorem bt_max : bootBuiltins "max" = some (.builtin "max") := by decide +kernel
theorem bt_min : bootBuiltins "min" = some (.builtin "min") := by decide +kernel
theorem bt_sum : bootBuiltins "sum" = some (.builtin "sum") := by decide +kernel
theorem bt_list : bootBuiltins "list" = some (.type "list") := by decide +kernel
theorem bt_int : bootBuiltins "int" = some (.type "int") := by decide +kernel
theorem bt_bool : bootBuiltins "bool" = some (.type "bool") := by decide +kernel
theorem bt_abs : bootBuiltins "abs" = some (.builtin "abs") := by decide +kernel
/-- the def x is called: its promise -/
structure Ok (P : Program) (w : World) (K : PySem.W.Frag) (mg : Str → Option Value) (base : Heap) (k : Nat) (x : Str) (ps : List Str) (sp : Sp) : Prop where
  ex : ∃ f fd, mg x = some (.ref f) ∧ PySem.W.keepIn K (.ref f) = true ∧ Binds K fd ps [] ∧ FnOk P w K mg base CX0 k f fd ps sp
/-- the def x stands in the text as st -/
structure Here (K : PySem.W.Frag) (mg : Str → Option Value) (x : Str) (st : Stmt) (ps : List Str) : Prop where
  ex : ∃ f fd, mg x = some (.ref f) ∧ Fun K x x st f fd ∧ Binds K fd ps []
theorem Here.ok {P : Program} {w : World} {K : PySem.W.Frag} {mg : Str → Option Value} {base : Heap} {x : Str} {st : Stmt} {N ps : List Str} {k : Nat} {sp : Sp} (D : Here K mg x st ps) (S : FnScope N ps (defScope st)) (len : ∀ vs H Q E, sp vs H Q E → vs.length = ps.length)
    (hb : ∀ (f : Addr) (cdv : Value) (A : Around) (outer : List Env) (s : Shared) (H : Hp) (vs : List V) (Q : VK) (E : XK), Room k (A.deeper (envOfC x (defScope st) s.heap.objs.size f cdv)) → sp vs H Q E →
      ∃ t, PSs (cxOf CX0 P w K mg base N x (defScope st) f cdv A outer s H E).nox (defBody st) t ∧ t { nx := fun _ H' => Q .non H', rt := Q } (start N vs) H) : Ok P w K mg base (k + 1) x ps sp := by
  obtain ⟨f, fd, g, F, b⟩ := D.ex
  exact ⟨f, fd, g, F.kp, b, F.ok S len fun cdv A outer s H vs Q E hr h => hb f cdv A outer s H vs Q E hr h⟩
theorem pe_own {X : Cx} {x : Str} {e : Expr} {es : List Expr} {t : TA} {p pos : Pos} {k j : Nat} {ps : List Str} {sp : Sp} (D : Ok X.prog X.w X.K X.mg X.base k x ps sp) (hr : Room j X.A) (ha : PA X (e :: es) t) (hk : k ≤ j := by decide) (hg : Gl X x := by rfl)
    (nd : (x == ("__debug__" : Str)) = false := by decide) (st : starEach (e :: es) X.env = (false, eval e X.env) :: starEach es X.env := by rfl) (pl : (backTo pos (starEach es X.env)).any (·.1) = false := by rfl) :
    PE X (.Call (.Name x p) (e :: es) [] pos) (tCall sp [] E0 t) := by
  obtain ⟨f, fd, g, kp, b, F⟩ := D.ex
  exact pe_call F (hr.mono hk) hg g kp b .nil pass0 ha nd st pl
/-! ### heaps -/
theorem sm_new {H : Hp} {p : Addr} {o : HO} (h : H p = none) : Same H (upd H p o) := fun b x e => by rw [upd_ne (ne_of_none e h)]; exact e
theorem sm_tup {K : PySem.W.Frag} {H H' : Hp} {a : Addr} {xs : List V} (e : Same H H') (h : SqT K H a xs) : SqT K H' a xs := by
  cases h with
  | inr q => exact .inr q
  | inl q => exact .inl (q.imp (e _ _) fun ⟨o, z⟩ => ⟨o, e _ _ z⟩)
/-- a list that grows: the rest stands -/
theorem sm_grow {H H1 : Hp} {D : Addr} {o : HO} (e : Same H H1) (n : H D = none) : Same H (upd H1 D o) := fun b x q => by rw [upd_ne (ne_of_none q n)]; exact e b x q
/-! ### comprehensions -/
/-- what a comprehension asks, in one word -/
abbrev LcEnd (J : It) (g : TG) (tt : TT) (te : TE) (vs : List Nat) (σ : St) (H1 : Hp) (D : Addr) (Qd : Hp → Prop) : Prop := ∃ W : Nat → Nat → Hp → Prop, (∃ m, W 0 m (upd H1 D (.lst []))) ∧ ∀ i m H, W i m H → (J.stop i H ∧ Qd H) ∨
    (J.go i H ∧ ∃ Nx : Hp → Prop, (∀ H', Nx H' → ∃ m', m' < m ∧ W (i + 1) m' H') ∧ ∀ x H', J.yld i H x H' → g x (wipe σ vs) H' fun σ2 H2 => wipe σ2 vs = wipe σ vs ∧ tt σ2 H2 fun b H3 => if b = true then te σ2 H3
      (fun y H4 => ∃ acc, H4 D = some (.lst acc) ∧ acc.length < sizeLine ∧ Nx (upd H4 D (.lst (acc ++ [y])))) else Nx H3)
section
variable {G : Hp → Prop} {J : It} {n : Nat} {Y : Nat → Hp → V → Hp → Prop}
theorem lc_fm (w : Walk J n G Y) {g : TG} {tt : TT} {te : TE} {vs : List Nat} {σ : St} {H1 : Hp} {D : Addr} {Qd : Hp → Prop} (f : Nat → Option V) (nD : H1 D = none) (hn : n ≤ 4000) (hG : ∀ H, Same H1 H → G H)
    (hs : ∀ (i : Nat) (x : V) (H H' : Hp) (P1 : V → Hp → Prop) (P0 : Hp → Prop), i < n → Same H1 H → Y i H x H' → (∀ y H4, f i = some y → Same H H4 → P1 y H4) → (∀ H3, f i = none → Same H H3 → P0 H3) →
      g x (wipe σ vs) H' fun σ2 H2 => wipe σ2 vs = wipe σ vs ∧ tt σ2 H2 fun b H3 => if b = true then te σ2 H3 P1 else P0 H3)
    (hd : ∀ H, Same H1 H → H D = some (.lst ((List.range n).filterMap f)) → Qd H) :
    LcEnd J g tt te vs σ H1 D Qd := by
  have len : ∀ i, ((List.range i).filterMap f).length ≤ i := fun i => by
    have := List.length_filterMap_le f (List.range i)
    rw [List.length_range] at this; exact this
  have snoc : ∀ i, (List.range (i + 1)).filterMap f = (List.range i).filterMap f ++ (f i).toList := fun i => by
    rw [List.range_succ, List.filterMap_append]; congr 1
  refine lc_it w (fun i H => i ≤ n ∧ Same H1 H ∧ H D = some (.lst ((List.range i).filterMap f))) ⟨Nat.zero_le _, sm_new nD, upd_same⟩ (fun i H _ p => hG H p.2.1) (fun i x H H' hi p y => ?_) fun H p => hd H p.2.1 p.2.2
  refine hs i x H H' _ _ hi p.2.1 y (fun y H4 e s => ?_) fun H3 e s => ?_
  · have z := s _ _ p.2.2
    refine ⟨_, z, ?_, hi, sm_grow (p.2.1.trans s) nD, ?_⟩
    · have := len i
      rw [sizeLine_eq]; omega
    · rw [upd_same, snoc, e]; rfl
  · refine ⟨hi, p.2.1.trans s, ?_⟩
    rw [s _ _ p.2.2, snoc, e]; exact congrArg (fun z => some (HO.lst z)) (List.append_nil _).symm
theorem fm_congr {γ δ : Type} {f g : γ → Option δ} : ∀ {l : List γ}, (∀ x ∈ l, f x = g x) → l.filterMap f = l.filterMap g
  | [], _ => rfl
  | x :: l, h => by
    have e := fm_congr (l := l) fun y hy => h y (List.mem_cons_of_mem _ hy)
    rw [List.filterMap_cons, List.filterMap_cons, h x List.mem_cons_self, e]
theorem range_get : ∀ {γ : Type} (l : List γ) (k : Nat), (List.range' k l.length).filterMap (fun i => l[i - k]?) = l
  | _, [], _ => rfl
  | _, x :: l, k => by
    rw [List.length_cons, List.range'_succ, List.filterMap_cons_some (b := x) (by simp)]
    congr 1
    refine Eq.trans (fm_congr fun i hi => ?_) (range_get l (k + 1))
    have h : k + 1 ≤ i := (List.mem_range'_1.mp hi).1
    rw [show i - k = (i - (k + 1)) + 1 by omega, List.getElem?_cons_succ]
theorem fm_eq {γ : Type} (l : List γ) (h : γ → Option V) : (List.range l.length).filterMap (fun i => l[i]?.bind h) = l.filterMap h := by
  have e := range_get l 0
  rw [← List.range_eq_range'] at e
  have e2 : (List.range l.length).filterMap (fun i => l[i]?) = l := e
  conv => rhs; rw [← e2]
  rw [List.filterMap_filterMap]
/-- over a list of anything: c is what the turn's item stands for -/
theorem lc_w {γ : Type} (l : List γ) (h : γ → Option V) (w : Walk J l.length G Y) {g : TG} {tt : TT} {te : TE} {vs : List Nat} {σ : St} {H1 : Hp} {D : Addr} {Qd : Hp → Prop} (nD : H1 D = none) (hn : l.length ≤ 4000) (hG : ∀ H, Same H1 H → G H)
    (hs : ∀ (i : Nat) (c : γ) (x : V) (H H' : Hp) (P1 : V → Hp → Prop) (P0 : Hp → Prop), l[i]? = some c → Same H1 H → Y i H x H' → (∀ y H4, h c = some y → Same H H4 → P1 y H4) → (∀ H3, h c = none → Same H H3 → P0 H3) →
      g x (wipe σ vs) H' fun σ2 H2 => wipe σ2 vs = wipe σ vs ∧ tt σ2 H2 fun b H3 => if b = true then te σ2 H3 P1 else P0 H3)
    (hd : ∀ H, Same H1 H → H D = some (.lst (l.filterMap h)) → Qd H) :
    LcEnd J g tt te vs σ H1 D Qd := by
  refine lc_fm w (fun i => l[i]?.bind h) nD hn hG (fun i x H H' P1 P0 hi s y k1 k0 => ?_) fun H s e => hd H s (by rw [e, fm_eq])
  have e : l[i]? = some l[i] := List.getElem?_eq_getElem hi
  refine hs i l[i] x H H' P1 P0 e s y (fun y H4 q => k1 y H4 (by rw [e]; exact q)) fun H3 q => k0 H3 (by rw [e]; exact q)
end
/-! the forms: a list or a tuple of φ of the as, a range, enumerate and zip of tuples of ints -/
section
variable {K : PySem.W.Frag} {a b : Addr} {g : TG} {tt : TT} {te : TE} {vs : List Nat} {σ : St} {H1 : Hp} {D : Addr} {Qd : Hp → Prop}
theorem at_map {γ : Type} {φ : γ → V} {l : List γ} {i : Nat} {c : γ} {x : V} (e : l[i]? = some c) (h : (l.map φ)[i]? = some x) : x = φ c := by
  rw [List.getElem?_map, e] at h; exact (Option.some.inj h).symm
theorem lc_l {γ : Type} (φ : γ → V) (l : List γ) (h : γ → Option V) (nD : H1 D = none) (hn : l.length ≤ 4000) (hL : SqL K H1 a (l.map φ))
    (hs : ∀ (i : Nat) (c : γ) (H : Hp) (P1 : V → Hp → Prop) (P0 : Hp → Prop), l[i]? = some c → Same H1 H → (∀ y H4, h c = some y → Same H H4 → P1 y H4) → (∀ H3, h c = none → Same H H3 → P0 H3) →
      g (φ c) (wipe σ vs) H fun σ2 H2 => wipe σ2 vs = wipe σ vs ∧ tt σ2 H2 fun b H3 => if b = true then te σ2 H3 P1 else P0 H3)
    (hd : ∀ H, Same H1 H → H D = some (.lst (l.filterMap h)) → Qd H) :
    LcEnd (Itl K a) g tt te vs σ H1 D Qd := by
  have w := walk_list (K := K) (a := a) (xs := l.map φ)
  rw [List.length_map] at w
  refine lc_w l h w nD hn (fun H s => s.seq hL) (fun i c x H H' P1 P0 e s y k1 k0 => ?_) hd
  obtain ⟨rfl, hx⟩ := y
  rw [at_map e hx]
  exact hs i c _ P1 P0 e s k1 k0
theorem lc_t {γ : Type} (φ : γ → V) (l : List γ) (h : γ → Option V) (nD : H1 D = none) (hn : l.length ≤ 4000) (hL : SqT K H1 a (l.map φ))
    (hs : ∀ (i : Nat) (c : γ) (H : Hp) (P1 : V → Hp → Prop) (P0 : Hp → Prop), l[i]? = some c → Same H1 H → (∀ y H4, h c = some y → Same H H4 → P1 y H4) → (∀ H3, h c = none → Same H H3 → P0 H3) →
      g (φ c) (wipe σ vs) H fun σ2 H2 => wipe σ2 vs = wipe σ vs ∧ tt σ2 H2 fun b H3 => if b = true then te σ2 H3 P1 else P0 H3)
    (hd : ∀ H, Same H1 H → H D = some (.lst (l.filterMap h)) → Qd H) :
    LcEnd (Itt K a) g tt te vs σ H1 D Qd := by
  have w := walk_tup (K := K) (a := a) (xs := l.map φ)
  rw [List.length_map] at w
  refine lc_w l h w nD hn (fun H s => sm_tup s hL) (fun i c x H H' P1 P0 e s y k1 k0 => ?_) hd
  obtain ⟨rfl, hx⟩ := y
  rw [at_map e hx]
  exact hs i c _ P1 P0 e s k1 k0
/-- the ints of a range -/
def rng (lo : Int) (n : Nat) : List Int := (List.range n).map fun i => lo + (i : Nat)
def rngC (lo c : Int) (n : Nat) : List Int := (List.range n).map fun i => lo + (i : Nat) * c
theorem rng_at {lo : Int} {n i : Nat} {c : Int} (e : (rng lo n)[i]? = some c) : c = lo + (i : Nat) ∧ i < n := by
  unfold rng at e
  rw [List.getElem?_map] at e
  cases q : (List.range n)[i]? with
  | none =>
    rw [q] at e
    cases e
  | some j =>
    rw [q] at e
    obtain ⟨h1, h2⟩ := List.getElem?_eq_some_iff.mp q
    rw [List.getElem_range] at h2
    rw [List.length_range] at h1
    subst h2
    exact ⟨(Option.some.inj e).symm, h1⟩
theorem rngC_at {lo st : Int} {n i : Nat} {c : Int} (e : (rngC lo st n)[i]? = some c) : c = lo + (i : Nat) * st ∧ i < n := by
  unfold rngC at e
  rw [List.getElem?_map] at e
  cases q : (List.range n)[i]? with
  | none =>
    rw [q] at e
    cases e
  | some j =>
    rw [q] at e
    obtain ⟨h1, h2⟩ := List.getElem?_eq_some_iff.mp q
    rw [List.getElem_range] at h2
    rw [List.length_range] at h1
    subst h2
    exact ⟨(Option.some.inj e).symm, h1⟩
theorem lc_r {lo : Int} {n : Nat} (h : Int → Option V) (nD : H1 D = none) (hn : n ≤ 4000)
    (hs : ∀ (i : Nat) (c : Int) (H : Hp) (P1 : V → Hp → Prop) (P0 : Hp → Prop), c = lo + (i : Nat) → i < n → Same H1 H → (∀ y H4, h c = some y → Same H H4 → P1 y H4) → (∀ H3, h c = none → Same H H3 → P0 H3) →
      g (.int c) (wipe σ vs) H fun σ2 H2 => wipe σ2 vs = wipe σ vs ∧ tt σ2 H2 fun b H3 => if b = true then te σ2 H3 P1 else P0 H3)
    (hd : ∀ H, Same H1 H → H D = some (.lst ((rng lo n).filterMap h)) → Qd H) :
    LcEnd (Itr lo n) g tt te vs σ H1 D Qd := by
  have el : (rng lo n).length = n := by unfold rng; rw [List.length_map, List.length_range]
  have w := walk_range (lo := lo) (n := n)
  have w' : Walk (Itr lo n) (rng lo n).length (fun _ => True) (YFn fun i => .int (lo + i)) := by rw [el]; exact w
  refine lc_w (rng lo n) h w' nD (by rw [el]; exact hn) (fun _ _ => trivial) (fun i c x H H' P1 P0 e s y k1 k0 => ?_) hd
  obtain ⟨rfl, rfl⟩ := y
  obtain ⟨ec, hi⟩ := rng_at e
  dsimp only
  rw [← ec]
  exact hs i c _ P1 P0 ec hi s k1 k0
theorem lc_rc {lo st : Int} {n : Nat} (h : Int → Option V) (nD : H1 D = none) (hn : n ≤ 4000)
    (hs : ∀ (i : Nat) (c : Int) (H : Hp) (P1 : V → Hp → Prop) (P0 : Hp → Prop), c = lo + (i : Nat) * st → i < n → Same H1 H → (∀ y H4, h c = some y → Same H H4 → P1 y H4) → (∀ H3, h c = none → Same H H3 → P0 H3) →
      g (.int c) (wipe σ vs) H fun σ2 H2 => wipe σ2 vs = wipe σ vs ∧ tt σ2 H2 fun b H3 => if b = true then te σ2 H3 P1 else P0 H3)
    (hd : ∀ H, Same H1 H → H D = some (.lst ((rngC lo st n).filterMap h)) → Qd H) :
    LcEnd (Itc lo st n) g tt te vs σ H1 D Qd := by
  have el : (rngC lo st n).length = n := by unfold rngC; rw [List.length_map, List.length_range]
  have w := walk_rangeC (lo := lo) (c := st) (n := n)
  have w' : Walk (Itc lo st n) (rngC lo st n).length (fun _ => True) (YFn fun i => .int (lo + (i : Nat) * st)) := by rw [el]; exact w
  refine lc_w (rngC lo st n) h w' nD (by rw [el]; exact hn) (fun _ _ => trivial) (fun i c x H H' P1 P0 e s y k1 k0 => ?_) hd
  obtain ⟨rfl, rfl⟩ := y
  obtain ⟨ec, hi⟩ := rngC_at e
  dsimp only
  rw [← ec]
  exact hs i c _ P1 P0 ec hi s k1 k0
theorem enumI_len : ∀ (l : List Int) (i : Int), (enumI i l).length = l.length
  | [], _ => rfl
  | _ :: r, i => by unfold enumI; rw [List.length_cons, List.length_cons, enumI_len r (i + 1)]
theorem enumI_at : ∀ (l : List Int) (k : Int) (i : Nat) {c : Int × Int}, (enumI k l)[i]? = some c → c.1 = k + (i : Nat) ∧ l[i]? = some c.2
  | [], _, _, _, e => by simp [enumI] at e
  | x :: r, k, 0, c, e => by
    have q : (k, x) = c := Option.some.inj e
    subst q; exact ⟨by simp, rfl⟩
  | x :: r, k, i + 1, c, e => by
    have q : (enumI (k + 1) r)[i]? = some c := by simpa [enumI] using e
    obtain ⟨h1, h2⟩ := enumI_at r (k + 1) i q
    exact ⟨by omega, by simpa using h2⟩
/-- enumerate of a tuple (or list) of ints -/
theorem lc_ew {J : It} {G : Hp → Prop} (ns : List Int) (w : Walk J ns.length G (YPair (fun i => some (.int (i : Nat))) (fun i => (ns.map V.int)[i]?))) (h : Int × Int → Option V) (nD : H1 D = none) (hn : ns.length ≤ 4000) (hG : ∀ H, Same H1 H → G H)
    (hs : ∀ (i : Nat) (x : Int) (T : Addr) (H : Hp) (P1 : V → Hp → Prop) (P0 : Hp → Prop), ns[i]? = some x → Same H1 H → H T = some (.tup [.int (i : Nat), .int x]) → (∀ y H4, h ((i : Nat), x) = some y → Same H H4 → P1 y H4) → (∀ H3, h ((i : Nat), x) = none → Same H H3 → P0 H3) →
      g (.ref T) (wipe σ vs) H fun σ2 H2 => wipe σ2 vs = wipe σ vs ∧ tt σ2 H2 fun b H3 => if b = true then te σ2 H3 P1 else P0 H3)
    (hd : ∀ H, Same H1 H → H D = some (.lst ((enumI 0 ns).filterMap h)) → Qd H) :
    LcEnd J g tt te vs σ H1 D Qd := by
  have el := enumI_len ns 0
  rw [← el] at w
  refine lc_w (enumI 0 ns) h w nD (by rw [el]; exact hn) hG (fun i c v H H' P1 P0 e s y k1 k0 => ?_) hd
  obtain ⟨h1, h2⟩ := enumI_at ns 0 i e
  obtain ⟨T, x, y, rfl, nT, rfl, e1, e2⟩ := y
  have ex : x = .int (i : Nat) := (Option.some.inj e1).symm
  have ey : y = .int c.2 := at_map h2 e2
  subst ex; subst ey
  have ec : c = (((i : Nat) : Int), c.2) := by rw [← show c.1 = (i : Nat) by omega]
  rw [ec] at k1 k0
  exact hs i c.2 T _ P1 P0 h2 (s.trans (sm_new nT)) upd_same (fun y H4 q s4 => k1 y H4 q ((sm_new nT).trans s4)) fun H3 q s3 => k0 H3 q ((sm_new nT).trans s3)
/-- zip of two tuples -/
theorem lc_z {γ δ : Type} (φ : γ → V) (ψ : δ → V) (l : List γ) (r : List δ) (h : γ × δ → Option V) (nD : H1 D = none) (hn : l.length ≤ 4000) (hL : SqT K H1 a (l.map φ)) (hR : SqT K H1 b (r.map ψ))
    (hs : ∀ (i : Nat) (c : γ) (d : δ) (T : Addr) (H : Hp) (P1 : V → Hp → Prop) (P0 : Hp → Prop), l[i]? = some c → r[i]? = some d → Same H1 H → H T = some (.tup [φ c, ψ d]) → (∀ y H4, h (c, d) = some y → Same H H4 → P1 y H4) → (∀ H3, h (c, d) = none → Same H H3 → P0 H3) →
      g (.ref T) (wipe σ vs) H fun σ2 H2 => wipe σ2 vs = wipe σ vs ∧ tt σ2 H2 fun b H3 => if b = true then te σ2 H3 P1 else P0 H3)
    (hd : ∀ H, Same H1 H → H D = some (.lst ((l.zip r).filterMap h)) → Qd H) :
    LcEnd (RZ.ItzT K a b) g tt te vs σ H1 D Qd := by
  have w := walk_zipT (K := K) (a := a) (b := b) (xs := l.map φ) (ys := r.map ψ) (n := (l.zip r).length) (by rw [List.length_zip, List.length_map, List.length_map])
  refine lc_w (l.zip r) h w nD (by rw [List.length_zip]; omega) (fun H s => ⟨sm_tup s hL, sm_tup s hR⟩) (fun i c v H H' P1 P0 e s y k1 k0 => ?_) hd
  obtain ⟨T, x, y, rfl, nT, rfl, e1, e2⟩ := y
  have e' := List.getElem?_zip_eq_some.mp e
  have ex : x = φ c.1 := at_map e'.1 e1
  have ey : y = ψ c.2 := at_map e'.2 e2
  subst ex; subst ey
  exact hs i c.1 c.2 T _ P1 P0 e'.1 e'.2 (s.trans (sm_new nT)) upd_same (fun y H4 q s4 => k1 y H4 q ((sm_new nT).trans s4)) fun H3 q s3 => k0 H3 q ((sm_new nT).trans s3)
end
end L2.Q67
namespace L2.Q67
open PySem PySem.Spec PyProof.Rows R67
/-! ### the rules that name the written part, with it given (a comprehension's block wants it so) -/
section
variable {X : Cx} (K : PySem.W.Frag)
theorem kIxT (h : X.K = K := by rfl) : IxR X (rIxT K) := h ▸ ix_tup
theorem kIxL (h : X.K = K := by rfl) : IxR X (rIxL K) := h ▸ ix_list
def rLenS : List V → Hp → VK → Prop := fun xs H Q => ∃ p ys, xs = [.ref p] ∧ (SqL K H p ys ∨ SqT K H p ys) ∧ Q (.int ys.length) H
theorem kLen (h : X.K = K := by rfl) : CallR X (.builtin "len") (rLenS K) := h ▸ call_len_seq
def rListOf : List V → Hp → VK → Prop := fun xs H Q => ∃ p ys, xs = [.ref p] ∧ (SqL K H p ys ∨ SqT K H p ys) ∧ ∀ l, H l = none → Q (.ref l) (upd H l (.lst ys))
theorem kListOf (h : X.K = K := by rfl) : CallR X (.type "list") (rListOf K) := h ▸ call_list_of
def rTupOf : List V → Hp → VK → Prop := fun xs H Q => ∃ p ys, xs = [.ref p] ∧ ((SqL K H p ys ∧ ∀ l, H l = none → Q (.ref l) (upd H l (.tup ys))) ∨ (SqT K H p ys ∧ Q (.ref p) H))
theorem kTupOf (h : X.K = K := by rfl) : CallR X (.type "tuple") (rTupOf K) := h ▸ call_tuple_of
theorem kAll (hc : X.calm = true) (h : X.K = K := by rfl) : CallR X (.builtin "all") (rAll K) := h ▸ cr_all hc
theorem kAny (hc : X.calm = true) (h : X.K = K := by rfl) : CallR X (.builtin "any") (rAny K) := h ▸ cr_any hc
theorem kSum (hc : X.calm = true) (h : X.K = K := by rfl) : CallR X (.builtin "sum") (rSum K) := h ▸ cr_sum hc
theorem kMin (hc : X.calm = true) (h : X.K = K := by rfl) : CallR X (.builtin "min") (rMin K) := h ▸ cr_min hc
theorem kSorted (h : X.K = K := by rfl) : CallR X (.builtin "sorted") (rSorted K) := h ▸ cr_sorted
theorem kIsi (h : X.K = K := by rfl) : CallR X (.builtin "isinstance") (rIsi K) := h ▸ call_isi
theorem kInS (h : X.K = K := by rfl) : OpR X (compareOp .In) (rIn K false) := h ▸ op_in_seq
theorem kEqD (hu : X.A.units + 64 < cLine) (h : X.K = K := by rfl) : OpR X (compareOp .Eq) (rEqD K) := h ▸ op_eqD hu
theorem kNeD (hu : X.A.units + 64 < cLine) (h : X.K = K := by rfl) : OpR X (compareOp .NotEq) (rNeD K) := h ▸ op_neD hu
theorem kSlT (h : X.K = K := by rfl) : SlR X (rSlA K) := h ▸ sl_tupA
theorem pg_tupK {es : List Expr} {k : Nat} {t : TGs} {n : Nat} {pos : Pos} (hc : X.calm = true) (hp : PGs X es t) (h : X.K = K := by rfl) (hn : (assignEach es X.env).length = n := by rfl) (hst : (assignEach es X.env).findIdx? (·.1) = none := by rfl) : PG X (.Tuple es k pos) (gTup K n t) := h ▸ pg_tup hc hp hn hst
theorem pa_starK {e : Expr} {es : List Expr} {te : TE} {t : TA} {p : Pos} (he : PE X e te) (hr : PA X es t) (h : X.K = K := by rfl) (hs : starEach (.Starred e p :: es) X.env = (true, eval e X.env) :: starEach es X.env := by rfl) : PA X (.Starred e p :: es) (StX.tStar K te t) := h ▸ StX.pa_star he hr hs
theorem pi_listK {tg l : Expr} {tl : TE} (hl : PE X l tl) (h : X.K = K := by rfl) : PI X tg l (iList K tl) := h ▸ pi_list hl
theorem pi_tupK {tg l : Expr} {tl : TE} (hl : PE X l tl) (h : X.K = K := by rfl) : PI X tg l (iTup K tl) := h ▸ pi_tup hl
end
/-- no test: the element -/
theorem lc_yes {σ : St} {H : Hp} {te : TE} {P1 : V → Hp → Prop} {P0 : Hp → Prop} (h : te σ H P1) : tYes σ H fun b H3 => if b = true then te σ H3 P1 else P0 H3 := show (if true = true then te σ H P1 else P0 H) from iteT h
end L2.Q67
namespace L2.Q67
open PySem PySem.Spec PyProof.Rows R67
/-! ### constants of the modules; a block within a block -/
structure Cn (mg : Str → Option Value) : Prop where
  MOST_RINGS : ∃ t, mg "MOST_RINGS" = some (.int 12 t)
  MOST_PLACES : ∃ t, mg "MOST_PLACES" = some (.int 60 t)
  MOST_SIDE : ∃ t, mg "MOST_SIDE" = some (.int 60 t)
  LEAST_ORDER : ∃ t, mg "LEAST_ORDER" = some (.int 2 t)
  MAX_ORDER : ∃ t, mg "MAX_ORDER" = some (.int 60 t)
  MAX_BOX : ∃ t, mg "MAX_BOX" = some (.int 16 t)
theorem pe_cn {X : Cx} {x : Str} {i : Int} {pos : Pos} (h : ∃ t, X.mg x = some (.int i t)) (hg : Gl X x := by rfl) (hd : (x == ("__debug__" : Str)) = false := by decide) : PE X (.Name x pos) (tC (.int i)) := let ⟨t, e⟩ := h; pe_glob hg e ⟨t, rfl⟩ hd
theorem relab_look {env : Env} : ∀ {names : List (Str × NameKind)} {x : Str}, names.lookup x = some .cell ∨ names.lookup x = some .free →
    (names.map fun (n, k) => if (k == NameKind.free && env.scope.kind == .function && env.kindOf n == some .cell) then (n, NameKind.cell) else (n, k)).lookup x = some .cell ∨ (names.map fun (n, k) => if (k == NameKind.free && env.scope.kind == .function && env.kindOf n == some .cell) then (n, NameKind.cell) else (n, k)).lookup x = some .free
  | [], x, h => by rcases h with h | h <;> cases h
  | (n, k) :: r, x, h => by
    have ih := @relab_look env r x
    rw [List.lookup_cons] at h
    rw [List.map_cons]
    dsimp only
    cases e : (x == n) with
    | true =>
      rw [e] at h
      have hk : k = .cell ∨ k = .free := by
        rcases h with h | h
        · exact .inl (Option.some.inj h)
        · exact .inr (Option.some.inj h)
      split
      · exact .inl (by rw [List.lookup_cons, e])
      · rcases hk with rfl | rfl
        · exact .inl (by rw [List.lookup_cons, e])
        · exact .inr (by rw [List.lookup_cons, e])
    | false =>
      rw [e] at h
      have q := ih h
      split <;> (rw [List.lookup_cons, e]; exact q)
theorem blkOk_in {N : List Str} {sc scope : Scope} {own : List (Str × Nat)} {env : Env} (h : BlkOk N sc scope own) : BlkOk N (relabel sc env) scope own :=
  ⟨h.kind, h.uniq, h.ix, fun y hy e => relab_look (h.free y hy e), h.own⟩
/-! ### is_whole, is_within, is_ring_in -/
abbrev sis_whole : Stmt := topS 10
theorem scis_whole : FnScope ["value"] ["value"] (defScope sis_whole) := ⟨rfl, rfl, rfl, by decide +kernel, rfl, by decide +kernel, by decide +kernel⟩

abbrev sis_within : Stmt := topS 11
theorem scis_within : FnScope ["value", "least", "most"] ["value", "least", "most"] (defScope sis_within) := ⟨rfl, rfl, rfl, by decide +kernel, rfl, by decide +kernel, by decide +kernel⟩

abbrev sis_ring_in : Stmt := topS 12
theorem scis_ring_in : FnScope ["value"] ["value"] (defScope sis_ring_in) := ⟨rfl, rfl, rfl, by decide +kernel, rfl, by decide +kernel, by decide +kernel⟩

def spWhole : Sp := fun vs H Q _ => ∃ i : Int, vs = [.int i] ∧ Q (.bl true) H
def spWithin : Sp := fun vs H Q _ => ∃ i lo hi : Int, vs = [.int i, .int lo, .int hi] ∧ Q (.bl (decide (lo ≤ i) && decide (i ≤ hi))) H
/-- a ring of the order at least 2 as the module takes it -/
def RingOk (q : Int × Int) : Prop := 2 ≤ q.1 ∧ q.1 ≤ 60 ∧ 1 ≤ q.2 ∧ q.2 < q.1
def isRing (H : Hp) (a : Addr) (q : Int × Int) : Prop := H a = some (.tup [.int q.1, .int q.2])
def spRing : Sp := fun vs H Q _ => ∃ (a : Addr) (q : Int × Int), vs = [.ref a] ∧ isRing H a q ∧ RingOk q ∧ Q (.bl true) H
section
variable {P : Program} {w : World} {K : PySem.W.Frag} {mg : Str → Option Value} {base : Heap}
theorem ok_whole (B : Bi mg) (D : Here K mg "is_whole" sis_whole ["value"]) : Ok P w K mg base 1 "is_whole" ["value"] spWhole := by
  refine D.ok scis_whole (fun vs H Q E h => ?_) (fun f cdv A outer s H vs Q E hr h => ?_)
  · obtain ⟨i, rfl, _⟩ := h; rfl
  · obtain ⟨i, rfl, q⟩ := h
    refine ⟨_, (pss_one (ps_ret (pe_and (pe_callB (kIsi K) (by rfl) B.isinstance bt_isinstance (pa_cons (pv 0) (pa_cons (pe_bltn (v := .ty "int") (by rfl) B.int bt_int rfl) pa_nil))) (pe_one (pe_not (pe_callB (kIsi K) (by rfl) B.isinstance bt_isinstance (pa_cons (pv 0) (pa_cons (pe_bltn (v := .ty "bool") (by rfl) B.bool bt_bool rfl) pa_nil)))))))), ?_⟩
    refine ⟨.int i, rfl, .int i, .ty "int", _, _, true, rfl, .ty _, .base (.int i), kit_ty (by decide +kernel), true, rfl, iteT ?_⟩
    exact ⟨.int i, rfl, .int i, .ty "bool", _, _, false, rfl, .ty _, .base (.int i), kit_ty (by decide +kernel), false, rfl, q⟩
theorem ok_within (B : Bi mg) (D : Here K mg "is_within" sis_within ["value", "least", "most"]) (d_is_whole : Ok P w K mg base 1 "is_whole" ["value"] spWhole) : Ok P w K mg base 2 "is_within" ["value", "least", "most"] spWithin := by
  refine D.ok scis_within (fun vs H Q E h => ?_) (fun f cdv A outer s H vs Q E hr h => ?_)
  · obtain ⟨i, lo, hi, rfl, _⟩ := h; rfl
  · obtain ⟨i, lo, hi, rfl, q⟩ := h
    refine ⟨_, (pss_one (ps_ret (pe_and (pe_own d_is_whole hr (pa_cons (pv 0) pa_nil)) (pe_one (pe_chain op_le op_le (pv 1) (pv 0) (pv 2)))))), ?_⟩
    refine ⟨.int i, rfl, i, rfl, true, rfl, iteT ?_⟩
    refine ⟨.int lo, rfl, .int i, rfl, lo, i, rfl, rfl, _, rfl, ite2 (fun c => ?_) (fun c => ?_)⟩
    · rw [c, Bool.true_and] at q
      exact ⟨.int hi, rfl, i, hi, rfl, rfl, q⟩
    · rw [eq_false_of_ne_true c, Bool.false_and] at q
      exact q
theorem ok_ring (B : Bi mg) (C : Cn mg) (D : Here K mg "is_ring_in" sis_ring_in ["value"]) (d_is_within : Ok P w K mg base 2 "is_within" ["value", "least", "most"] spWithin) : Ok P w K mg base 3 "is_ring_in" ["value"] spRing := by
  refine D.ok scis_ring_in (fun vs H Q E h => ?_) (fun f cdv A outer s H vs Q E hr h => ?_)
  · obtain ⟨a, q, rfl, _⟩ := h; rfl
  · obtain ⟨a, ⟨n, st⟩, rfl, ha, ⟨h1, h2, h3, h4⟩, q⟩ := h
    simp only at h1 h2 h3 h4
    have hT : SqT K H a [.int n, .int st] := .inl (.inl ha)
    refine ⟨_, (pss_cons (ps_if (PW.pt (pw_or (pt_not (pt_val (pe_callB (kIsi K) (by rfl) B.isinstance bt_isinstance (pa_cons (pv 0) (pa_cons (pe_bltn (v := .ty "tuple") (by rfl) B.tuple bt_tuple rfl) pa_nil))))) (pw_or (pt_cmpR op_ne (pe_callB (kLen K) (by rfl) B.len PySem.boot_len (pa_cons (pv 0) pa_nil)) pe_int (nomark _)) (pw_or1 (pt_not (pt_val (pe_own d_is_within hr (pa_cons (pe_ix (kIxT K) (pv 0) pe_int (fun _ _ => rfl)) (pa_cons pe_int (pa_cons (pe_cn C.MOST_PLACES) pa_nil)))))))))) (pss_one (ps_ret pe_bl)) pss_nil)
      (pss_one (ps_ret (pe_own d_is_within hr (pa_cons (pe_ix (kIxT K) (pv 0) pe_int (fun _ _ => rfl)) (pa_cons pe_int (pa_cons (pe_op op_sub (pe_ix (kIxT K) (pv 0) pe_int (fun _ _ => rfl)) pe_int) pa_nil))))))), ?_⟩
    refine ⟨.ref a, rfl, .ref a, .ty "tuple", _, _, true, rfl, .ty _, .base (.tup ha), kit_ty (by decide +kernel), true, rfl, iteF ?_⟩
    refine ⟨.ref a, rfl, a, _, rfl, .inr hT, rfl, _, rfl, ?_⟩
    refine iteF ?_
    refine ⟨.ref a, rfl, a, _, 0, .int n, rfl, rfl, hT, rfl, n, 2, 60, rfl, _, rfl, ?_⟩
    rw [decide_eq_true h1, decide_eq_true h2]
    refine iteF ?_
    refine ⟨.ref a, rfl, a, _, 1, .int st, rfl, rfl, hT, rfl, .ref a, rfl, a, _, 0, .int n, rfl, rfl, hT, rfl, n, 1, rfl, rfl, st, 1, n - 1, rfl, ?_⟩
    rw [decide_eq_true h3, decide_eq_true (show st ≤ n - 1 by omega)]
    exact q
end
end L2.Q67
namespace L2.Q67
open PySem PySem.Spec PyProof.Rows R67
theorem fm_some {γ δ : Type} (f : γ → δ) (l : List γ) : l.filterMap (fun c => some (f c)) = l.map f := by
  induction l with
  | nil => rfl
  | cons x l ih => rw [List.filterMap_cons, List.map_cons, ih]
theorem fm_if {γ δ : Type} (p : γ → Bool) (g : γ → δ) (l : List γ) : l.filterMap (fun c => if p c = true then some (g c) else none) = (l.filter p).map g := by
  induction l with
  | nil => rfl
  | cons x l ih =>
    rw [List.filterMap_cons, List.filter_cons, ih]
    cases p x <;> rfl
theorem all_id {γ : Type} (f : γ → Bool) (l : List γ) : (l.map f).all id = l.all f := by rw [List.all_map]; rfl
/-- a chain: the rings' places and what they are -/
abbrev Lk := Addr × (Int × Int)
def isChain (H : Hp) (a : Addr) (l : List Lk) : Prop := H a = some (.tup (l.map fun c => V.ref c.1)) ∧ ∀ c ∈ l, isRing H c.1 c.2
theorem isChain.same {H H' : Hp} {a : Addr} {l : List Lk} (h : isChain H a l) (s : Same H H') : isChain H' a l := ⟨s _ _ h.1, fun c hc => s _ _ (h.2 c hc)⟩
def ChainOk (l : List Lk) : Prop := 1 ≤ l.length ∧ l.length ≤ 12 ∧ ∀ c ∈ l, RingOk c.2
theorem mem_at {γ : Type} {l : List γ} {i : Nat} {c : γ} (e : l[i]? = some c) : c ∈ l := List.mem_of_getElem? e
def spChain : Sp := fun vs H Q _ => ∃ (a : Addr) (l : List Lk), vs = [.ref a] ∧ isChain H a l ∧ ChainOk l ∧ ∀ H', Same H H' → Q (.bl true) H'
def spReqChain : Sp := fun vs H Q _ => ∃ (a : Addr) (l : List Lk), vs = [.ref a] ∧ isChain H a l ∧ ChainOk l ∧ ∀ H', Same H H' → Q .non H'
/-- a tuple of a place of each ring -/
def PlOk (l : List Lk) (ps : List Int) : Prop := ps.length = l.length ∧ ∀ q ∈ l.zip ps, 0 ≤ q.2 ∧ q.2 < q.1.2.1
def spTuple : Sp := fun vs H Q _ => ∃ (a b : Addr) (l : List Lk) (ps : List Int), vs = [.ref a, .ref b] ∧ isChain H a l ∧ ChainOk l ∧ H b = some (.tup (ps.map V.int)) ∧ PlOk l ps ∧ ∀ H', Same H H' → Q (.bl true) H'
def spReqTuple : Sp := fun vs H Q _ => ∃ (a b : Addr) (l : List Lk) (ps : List Int), vs = [.ref a, .ref b] ∧ isChain H a l ∧ ChainOk l ∧ H b = some (.tup (ps.map V.int)) ∧ PlOk l ps ∧ ∀ H', Same H H' → Q .non H'
abbrev sis_chain_in : Stmt := topS 13
theorem scis_chain_in : FnScope ["value", "ring"] ["value"] (defScope sis_chain_in) := ⟨rfl, rfl, rfl, by decide +kernel, rfl, by decide +kernel, by decide +kernel⟩

abbrev srequire_chain : Stmt := topS 14
theorem screquire_chain : FnScope ["value"] ["value"] (defScope srequire_chain) := ⟨rfl, rfl, rfl, by decide +kernel, rfl, by decide +kernel, by decide +kernel⟩

abbrev sis_tuple_in : Stmt := topS 16
theorem scis_tuple_in : FnScope ["chain", "value", "ring", "place"] ["chain", "value"] (defScope sis_tuple_in) := ⟨rfl, rfl, rfl, by decide +kernel, rfl, by decide +kernel, by decide +kernel⟩

abbrev srequire_tuple : Stmt := topS 17
theorem screquire_tuple : FnScope ["chain", "value"] ["chain", "value"] (defScope srequire_tuple) := ⟨rfl, rfl, rfl, by decide +kernel, rfl, by decide +kernel, by decide +kernel⟩

section
variable {P : Program} {w : World} {K : PySem.W.Frag} {mg : Str → Option Value} {base : Heap}
theorem ok_chain (B : Bi mg) (C : Cn mg) (D : Here K mg "is_chain_in" sis_chain_in ["value"]) (d_is_ring_in : Ok P w K mg base 3 "is_ring_in" ["value"] spRing) : Ok P w K mg base 4 "is_chain_in" ["value"] spChain := by
  refine D.ok scis_chain_in (fun vs H Q E h => ?_) (fun f cdv A outer s H vs Q E hr h => ?_)
  · obtain ⟨a, l, rfl, _⟩ := h; rfl
  · obtain ⟨a, l, rfl, hc, ⟨o1, o2, o3⟩, q⟩ := h
    have hT : SqT K H a (l.map fun c => V.ref c.1) := .inl (.inl hc.1)
    refine ⟨_, (pss_one (ps_ret (pe_and (pe_callB (kIsi K) (by rfl) B.isinstance bt_isinstance (pa_cons (pv 0) (pa_cons (pe_bltn (v := .ty "tuple") (by rfl) B.tuple bt_tuple rfl) pa_nil))) (pe_and (pe_chain op_le op_le pe_int (pe_callB (kLen K) (by rfl) B.len PySem.boot_len (pa_cons (pv 0) pa_nil)) (pe_cn C.MOST_RINGS)) (pe_one (pe_callB (kAll K rfl) (by rfl) B.all bt_all (pa_cons (pe_lc (own := [("ring", 1)]) rfl scis_chain_in.nd (pi_tupK K (pv 0)) (blkOk_by (N := ["value", "ring"]) (sc := defScope sis_chain_in) (by decide +kernel)) (fun _ _ _ _ _ => (pg_name (i := 1) scis_chain_in.nd rfl (by first | exact Or.inl rfl | exact Or.inr rfl))) (fun _ _ _ _ _ => pts_nil) (fun _ _ _ _ _ => (pe_own d_is_ring_in hr (pa_cons (pv 1) pa_nil)))) pa_nil))))))), ?_⟩
    refine ⟨.ref a, rfl, .ref a, .ty "tuple", _, _, true, rfl, .ty _, .base (.tup hc.1), kit_ty (by decide +kernel), true, rfl, iteT ?_⟩
    refine ⟨.ref a, rfl, a, _, rfl, .inr hT, 1, _, rfl, rfl, _, rfl, ?_⟩
    rw [List.length_map, decide_eq_true (show (1 : Int) ≤ (l.length : Int) by omega)]
    refine iteT ⟨_, 12, rfl, rfl, _, rfl, ?_⟩
    rw [decide_eq_true (show (l.length : Int) ≤ 12 by omega)]
    refine iteT ⟨.ref a, rfl, a, rfl, ⟨_, hT⟩, fun D nD => ?_⟩
    refine lc_t (fun c : Lk => V.ref c.1) l (fun _ => some (.bl true)) nD (by omega) hT (fun i c H2 P1 P0 e s2 k1 k0 => ?_) fun H3 s3 e3 => ?_
    · exact ⟨rfl, lc_yes ⟨.ref c.1, rfl, c.1, c.2, rfl, (hc.same s2).2 c (mem_at e), o3 c (mem_at e), k1 _ _ rfl (Same.refl _)⟩⟩
    · refine ⟨D, l.map fun _ => true, rfl, .inl (.inl (by rw [e3, fm_some, List.map_map]; rfl)), ?_⟩
      rw [all_id, show (l.all fun _ => true) = true from List.all_eq_true.mpr fun _ _ => rfl]
      exact q _ s3
theorem ok_reqChain (D : Here K mg "require_chain" srequire_chain ["value"]) (d_is_chain_in : Ok P w K mg base 4 "is_chain_in" ["value"] spChain) : Ok P w K mg base 5 "require_chain" ["value"] spReqChain := by
  refine D.ok screquire_chain (fun vs H Q E h => ?_) (fun f cdv A outer s H vs Q E hr h => ?_)
  · obtain ⟨a, l, rfl, _⟩ := h; rfl
  · obtain ⟨a, l, rfl, hc, o, q⟩ := h
    refine ⟨_, (pss_one (ps_if (pt_not (pt_val (pe_own d_is_chain_in hr (pa_cons (pv 0) pa_nil)))) (pss_one ps_never) pss_nil)), ?_⟩
    exact ⟨.ref a, rfl, a, l, rfl, hc, o, fun H' s' => ⟨true, rfl, iteF (q H' s')⟩⟩
theorem ok_tuple (B : Bi mg) (C : Cn mg) (D : Here K mg "is_tuple_in" sis_tuple_in ["chain", "value"]) (d_is_within : Ok P w K mg base 2 "is_within" ["value", "least", "most"] spWithin) : Ok P w K mg base 4 "is_tuple_in" ["chain", "value"] spTuple := by
  refine D.ok scis_tuple_in (fun vs H Q E h => ?_) (fun f cdv A outer s H vs Q E hr h => ?_)
  · obtain ⟨a, b, l, ps, rfl, _⟩ := h; rfl
  · obtain ⟨a, b, l, ps, rfl, hc, ⟨o1, o2, o3⟩, hb, ⟨hl, hp⟩, q⟩ := h
    have hT : SqT K H a (l.map fun c => V.ref c.1) := .inl (.inl hc.1)
    have hU : SqT K H b (ps.map V.int) := .inl (.inl hb)
    refine ⟨_, (pss_cons (ps_if (PW.pt (pw_or (pt_not (pt_val (pe_callB (kIsi K) (by rfl) B.isinstance bt_isinstance (pa_cons (pv 1) (pa_cons (pe_bltn (v := .ty "tuple") (by rfl) B.tuple bt_tuple rfl) pa_nil))))) (pw_or1 (pt_cmpR op_ne (pe_callB (kLen K) (by rfl) B.len PySem.boot_len (pa_cons (pv 1) pa_nil)) (pe_callB (kLen K) (by rfl) B.len PySem.boot_len (pa_cons (pv 0) pa_nil)) (nomark _))))) (pss_one (ps_ret pe_bl)) pss_nil)
      (pss_one (ps_ret (pe_callB (kAll K rfl) (by rfl) B.all bt_all (pa_cons (pe_lc (own := [("ring", 2), ("place", 3)]) rfl scis_tuple_in.nd (RZ.pi_zipA (by rfl) B.zip (pa_cons (pv 0) (pa_cons (pv 1) pa_nil))) (blkOk_by (N := ["chain", "value", "ring", "place"]) (sc := defScope sis_tuple_in) (by decide +kernel)) (fun _ _ _ _ _ => (pg_tupK (n := 2) K rfl (pgs_cons (pg_name (i := 2) scis_tuple_in.nd rfl (by first | exact Or.inl rfl | exact Or.inr rfl)) (pgs_cons (pg_name (i := 3) scis_tuple_in.nd rfl (by first | exact Or.inl rfl | exact Or.inr rfl)) pgs_nil)))) (fun _ _ _ _ _ => pts_nil) (fun _ _ _ _ _ => (pe_own d_is_within hr (pa_cons (pv 3) (pa_cons pe_int (pa_cons (pe_op op_sub (pe_ix (kIxT K) (pv 2) pe_int (fun _ _ => rfl)) pe_int) pa_nil)))))) pa_nil))))), ?_⟩
    refine ⟨.ref b, rfl, .ref b, .ty "tuple", _, _, true, rfl, .ty _, .base (.tup hb), kit_ty (by decide +kernel), true, rfl, iteF ?_⟩
    refine ⟨.ref b, rfl, b, _, rfl, .inr hU, .ref a, rfl, a, _, rfl, .inr hT, rfl, _, rfl, ?_⟩
    rw [List.length_map, List.length_map, hl]
    refine iteNS rfl ?_
    refine ⟨.ref a, rfl, .ref b, rfl, a, b, _, _, rfl, .inr ⟨hT, hU, fun D nD => ?_⟩⟩
    refine lc_z (fun c : Lk => V.ref c.1) V.int l ps (fun _ => some (.bl true)) nD (by omega) hT hU (fun i c d T H2 P1 P0 e1 e2 s2 hT2 k1 k0 => ?_) fun H3 s3 e3 => ?_
    · have hr2 := (hc.same s2).2 c (mem_at e1)
      have hq := hp (c, d) (mem_at (List.getElem?_zip_eq_some.mpr ⟨e1, e2⟩))
      refine ⟨T, _, rfl, .inl (.inl hT2), rfl, _, _, rfl, _, _, rfl, rfl, rfl, lc_yes ?_⟩
      refine ⟨.int d, rfl, .ref c.1, rfl, c.1, _, 0, .int c.2.1, rfl, rfl, .inl (.inl hr2), rfl, c.2.1, 1, rfl, rfl, d, 0, c.2.1 - 1, rfl, ?_⟩
      have a1 : (0 : Int) ≤ d := hq.1
      have a2 : d < c.2.1 := hq.2
      rw [decide_eq_true a1, decide_eq_true (show d ≤ c.2.1 - 1 by omega)]
      exact k1 _ _ rfl (Same.refl _)
    · refine ⟨D, (l.zip ps).map fun _ => true, rfl, .inl (.inl (by rw [e3, fm_some, List.map_map]; rfl)), ?_⟩
      rw [all_id, show ((l.zip ps).all fun _ => true) = true from List.all_eq_true.mpr fun _ _ => rfl]
      exact q _ s3
theorem ok_reqTuple (D : Here K mg "require_tuple" srequire_tuple ["chain", "value"]) (d_is_tuple_in : Ok P w K mg base 4 "is_tuple_in" ["chain", "value"] spTuple) : Ok P w K mg base 5 "require_tuple" ["chain", "value"] spReqTuple := by
  refine D.ok screquire_tuple (fun vs H Q E h => ?_) (fun f cdv A outer s H vs Q E hr h => ?_)
  · obtain ⟨a, b, l, ps, rfl, _⟩ := h; rfl
  · obtain ⟨a, b, l, ps, rfl, hc, o, hb, hp, q⟩ := h
    refine ⟨_, (pss_one (ps_if (pt_not (pt_val (pe_own d_is_tuple_in hr (pa_cons (pv 0) (pa_cons (pv 1) pa_nil))))) (pss_one ps_never) pss_nil)), ?_⟩
    exact ⟨.ref a, rfl, .ref b, rfl, a, b, l, ps, rfl, hc, o, hb, hp, fun H' s' => ⟨true, rfl, iteF (q H' s')⟩⟩
end
end L2.Q67
namespace L2.Q67
open PySem PySem.Spec PyProof.Rows R67
/-- what is_heap_in asks -/
def heapOk (h : Hg) : Bool := !h.isEmpty && decide (h.length ≤ 60) && (h.all fun x => decide (1 ≤ x) && decide (x ≤ 60)) && ((h.zip (h.drop 1)).all fun p => decide (p.2 ≤ p.1))
def spHeap : Sp := fun vs H Q _ => ∃ (a : Addr) (h : Hg), vs = [.ref a] ∧ H a = some (.tup (h.map V.int)) ∧ heapOk h = true ∧ ∀ H', Same H H' → Q (.bl true) H'
def spBox : Sp := fun vs H Q _ => ∃ (c r : Int), vs = [.int c, .int r] ∧ 1 ≤ c ∧ c ≤ 16 ∧ 1 ≤ r ∧ ∀ H' p, Same H H' → H' p = some (.tup ((boxOf c r).map V.int)) → Q (.ref p) H'
def spHolds : Sp := fun vs H Q _ => ∃ (a b : Addr) (x y : Hg), vs = [.ref a, .ref b] ∧ H a = some (.tup (x.map V.int)) ∧ H b = some (.tup (y.map V.int)) ∧ x.length ≤ 100 ∧ ∀ H', Same H H' → Q (.bl (holds x y)) H'
/-- small heaps -/
def Bd (h : Hg) : Prop := h.length ≤ 100 ∧ ∀ x ∈ h, 0 ≤ x ∧ x ≤ 100
def spFlip : Sp := fun vs H Q _ => ∃ (a : Addr) (h : Hg), vs = [.ref a] ∧ H a = some (.tup (h.map V.int)) ∧ Bd h ∧ ∀ H' p, Same H H' → H' p = some (.tup ((flipd h).map V.int)) → Q (.ref p) H'
theorem maxI_mem : ∀ (h : Hg), (h = [] ∧ maxI h = 0) ∨ (maxI h ∈ h ∧ ∀ y ∈ h, y ≤ maxI h)
  | [] => .inl ⟨rfl, rfl⟩
  | x :: r => by
    refine .inr ?_
    have key : ∀ (r : Hg) (a : Int), (r.foldl (fun a b => if b > a then b else a) a = a ∨ r.foldl (fun a b => if b > a then b else a) a ∈ r) ∧ a ≤ r.foldl (fun a b => if b > a then b else a) a ∧ ∀ y ∈ r, y ≤ r.foldl (fun a b => if b > a then b else a) a := by
      intro r
      induction r with
      | nil => intro a; exact ⟨.inl rfl, Int.le_refl _, fun y hy => by cases hy⟩
      | cons b r ih =>
        intro a
        rw [List.foldl_cons]
        obtain ⟨h1, h2, h3⟩ := ih (if b > a then b else a)
        have hb : b ≤ (if b > a then b else a) ∧ a ≤ (if b > a then b else a) ∧ ((if b > a then b else a) = a ∨ (if b > a then b else a) = b) := by split <;> omega
        refine ⟨?_, Int.le_trans hb.2.1 h2, fun y hy => ?_⟩
        · rcases h1 with e | e
          · rcases hb.2.2 with e2 | e2
            · exact .inl (e.trans e2)
            · exact .inr (by rw [e, e2]; exact List.mem_cons_self)
          · exact .inr (List.mem_cons_of_mem _ e)
        · rcases List.mem_cons.mp hy with e | hy
          · rw [e]; exact Int.le_trans hb.1 h2
          · exact h3 y hy
    obtain ⟨h1, h2, h3⟩ := key r x
    refine ⟨?_, fun y hy => ?_⟩
    · show r.foldl _ x ∈ x :: r
      rcases h1 with e | e
      · rw [e]; exact List.mem_cons_self
      · exact List.mem_cons_of_mem _ e
    · rcases List.mem_cons.mp hy with e | hy
      · rw [e]; exact h2
      · exact h3 y hy
theorem maxI_is {h : Hg} {m : Int} (e : h = [] ∧ m = 0 ∨ m ∈ h ∧ ∀ y, y ∈ h → y ≤ m) : m = maxI h := by
  rcases maxI_mem h with ⟨a, b⟩ | ⟨a, b⟩
  · rcases e with ⟨c, d⟩ | ⟨c, d⟩
    · rw [b, d]
    · rw [a] at c; cases c
  · rcases e with ⟨c, d⟩ | ⟨c, d⟩
    · rw [c] at a; cases a
    · exact Int.le_antisymm (b m c) (d _ a)
theorem maxI_bd {h : Hg} (b : Bd h) : 0 ≤ maxI h ∧ maxI h ≤ 100 := by
  rcases maxI_mem h with ⟨_, e⟩ | ⟨e, _⟩
  · omega
  · exact b.2 _ e
theorem cut1 (xs : List V) : cutV xs (some 1) none = xs.drop 1 := by
  unfold cutV
  rw [show HT.sIx xs.length 0 (some 1) = min 1 xs.length from HT.sIx_nat xs.length 0 1, HT.sIx_none]
  cases xs with
  | nil => rfl
  | cons x r => rw [show min 1 (x :: r).length = 1 by rw [List.length_cons]; omega]; exact List.take_of_length_le (by simp)
abbrev sis_heap_in : Stmt := topS 20
theorem scis_heap_in : FnScope ["value", "one", "other", "height"] ["value"] (defScope sis_heap_in) := ⟨rfl, rfl, rfl, by decide +kernel, rfl, by decide +kernel, by decide +kernel⟩

abbrev sbox_in : Stmt := topS 21
theorem scbox_in : FnScope ["columns", "rows"] ["columns", "rows"] (defScope sbox_in) := ⟨rfl, rfl, rfl, by decide +kernel, rfl, by decide +kernel, by decide +kernel⟩

abbrev sholds_in : Stmt := topS 22
theorem scholds_in : FnScope ["heap", "other", "one", "two"] ["heap", "other"] (defScope sholds_in) := ⟨rfl, rfl, rfl, by decide +kernel, rfl, by decide +kernel, by decide +kernel⟩

abbrev sflipped_in : Stmt := topS 23
theorem scflipped_in : FnScope ["heap", "row", "height"] ["heap"] (defScope sflipped_in) := ⟨rfl, rfl, rfl, by decide +kernel, rfl, by decide +kernel, by decide +kernel⟩

section
variable {P : Program} {w : World} {K : PySem.W.Frag} {mg : Str → Option Value} {base : Heap}
theorem ok_heap (B : Bi mg) (C : Cn mg) (D : Here K mg "is_heap_in" sis_heap_in ["value"]) (d_is_within : Ok P w K mg base 2 "is_within" ["value", "least", "most"] spWithin) : Ok P w K mg base 3 "is_heap_in" ["value"] spHeap := by
  refine D.ok scis_heap_in (fun vs H Q E h => ?_) (fun f cdv A outer s H vs Q E hr h => ?_)
  · obtain ⟨a, h, rfl, _⟩ := h; rfl
  · obtain ⟨a, h, rfl, ha, ho, q⟩ := h
    unfold heapOk at ho
    simp only [Bool.and_eq_true] at ho
    obtain ⟨⟨⟨o1, o2⟩, o3⟩, o4⟩ := ho
    have hlen : h.length ≤ 60 := of_decide_eq_true o2
    have hT : SqT K H a (h.map V.int) := .inl (.inl ha)
    refine ⟨_, (pss_cons (ps_if (PW.pt (pw_or (pt_not (pt_val (pe_callB (kIsi K) (by rfl) B.isinstance bt_isinstance (pa_cons (pv 0) (pa_cons (pe_bltn (v := .ty "tuple") (by rfl) B.tuple bt_tuple rfl) pa_nil))))) (pw_or1 (pt_cmpR op_gt (pe_callB (kLen K) (by rfl) B.len PySem.boot_len (pa_cons (pv 0) pa_nil)) (pe_cn C.MOST_SIDE) (nomark _))))) (pss_one (ps_ret pe_bl)) pss_nil)
      (pss_cons (ps_if (pt_not (pt_val (pe_callB (kAll K rfl) (by rfl) B.all bt_all (pa_cons (pe_lc (own := [("height", 3)]) rfl scis_heap_in.nd (pi_tupK K (pv 0)) (blkOk_by (N := ["value", "one", "other", "height"]) (sc := defScope sis_heap_in) (by decide +kernel)) (fun _ _ _ _ _ => (pg_name (i := 3) scis_heap_in.nd rfl (by first | exact Or.inl rfl | exact Or.inr rfl))) (fun _ _ _ _ _ => pts_nil) (fun _ _ _ _ _ => (pe_own d_is_within hr (pa_cons (pv 3) (pa_cons pe_int (pa_cons (pe_cn C.MOST_SIDE) pa_nil)))))) pa_nil)))) (pss_one (ps_ret pe_bl)) pss_nil)
      (pss_one (ps_ret (pe_callB (kAll K rfl) (by rfl) B.all bt_all (pa_cons (pe_lc (own := [("one", 1), ("other", 2)]) rfl scis_heap_in.nd (RZ.pi_zipA (by rfl) B.zip (pa_cons (pv 0) (pa_cons (pe_slice (kSlT K) (pv 0) (po_some pe_int) po_none) pa_nil))) (blkOk_by (N := ["value", "one", "other", "height"]) (sc := defScope sis_heap_in) (by decide +kernel)) (fun _ _ _ _ _ => (pg_tupK (n := 2) K rfl (pgs_cons (pg_name (i := 1) scis_heap_in.nd rfl (by first | exact Or.inl rfl | exact Or.inr rfl)) (pgs_cons (pg_name (i := 2) scis_heap_in.nd rfl (by first | exact Or.inl rfl | exact Or.inr rfl)) pgs_nil)))) (fun _ _ _ _ _ => pts_nil) (fun _ _ _ _ _ => (pe_cmpR op_ge (pv 1) (pv 2) (nomark _)))) pa_nil)))))), ?_⟩
    refine ⟨.ref a, rfl, .ref a, .ty "tuple", _, _, true, rfl, .ty _, .base (.tup ha), kit_ty (by decide +kernel), true, rfl, iteF ?_⟩
    refine ⟨.ref a, rfl, a, _, rfl, .inr hT, _, 60, rfl, rfl, _, rfl, ?_⟩
    rw [List.length_map, decide_eq_false (show ¬ ((60 : Int) < (h.length : Int)) by omega)]
    refine iteF ⟨.ref a, rfl, a, rfl, ⟨_, hT⟩, fun D nD => ?_⟩
    refine lc_t V.int h (fun x => some (.bl (decide (1 ≤ x) && decide (x ≤ 60)))) nD (by omega) hT (fun i c H2 P1 P0 e s2 k1 k0 => ?_) fun H3 s3 e3 => ?_
    · exact ⟨rfl, lc_yes ⟨.int c, rfl, c, 1, 60, rfl, k1 _ _ rfl (Same.refl _)⟩⟩
    · refine ⟨D, h.map fun x => decide (1 ≤ x) && decide (x ≤ 60), rfl, .inl (.inl (by rw [e3, fm_some, List.map_map]; rfl)), ?_⟩
      rw [all_id, o3]
      refine ⟨true, rfl, iteF ?_⟩
      have hT3 : SqT K H3 a (h.map V.int) := sm_tup s3 hT
      have hne : ¬ (HT.sIx (h.map V.int).length 0 (some 1) = 0 ∧ HT.sIx (h.map V.int).length (h.map V.int).length none = (h.map V.int).length) := by
        rw [show HT.sIx (h.map V.int).length 0 (some 1) = min 1 (h.map V.int).length from HT.sIx_nat _ 0 1]
        have : h.length ≠ 0 := fun z => by rw [List.eq_nil_of_length_eq_zero z] at o1; cases o1
        rw [List.length_map]; omega
      refine ⟨.ref a, rfl, .ref a, rfl, 1, rfl, a, _, rfl, hT3, fun z => absurd z hne, fun _ p np => ?_⟩
      have s4 : Same H3 (upd H3 p (.tup (cutV (h.map V.int) (some 1) none))) := sm_new np
      have hp : SqT K (upd H3 p (.tup (cutV (h.map V.int) (some 1) none))) p ((h.drop 1).map V.int) := .inl (.inl (by rw [upd_same, cut1, List.map_drop]))
      refine ⟨a, p, _, _, rfl, .inr ⟨sm_tup s4 hT3, hp, fun D2 nD2 => ?_⟩⟩
      refine lc_z V.int V.int h (h.drop 1) (fun q => some (.bl (decide (q.2 ≤ q.1)))) nD2 (by omega) (sm_tup s4 hT3) hp (fun i c d T H2 P1 P0 e1 e2 s2 hT2 k1 k0 => ?_) fun H5 s5 e5 => ?_
      · exact ⟨T, _, rfl, .inl (.inl hT2), rfl, _, _, rfl, _, _, rfl, rfl, rfl, lc_yes ⟨.int c, rfl, .int d, rfl, c, d, rfl, rfl, k1 _ _ rfl (Same.refl _)⟩⟩
      · refine ⟨D2, (h.zip (h.drop 1)).map fun q => decide (q.2 ≤ q.1), rfl, .inl (.inl (by rw [e5, fm_some, List.map_map]; rfl)), ?_⟩
        rw [all_id, o4]
        exact q _ (s3.trans (s4.trans s5))
theorem ok_box (D : Here K mg "box_in" sbox_in ["columns", "rows"]) : Ok P w K mg base 1 "box_in" ["columns", "rows"] spBox := by
  refine D.ok scbox_in (fun vs H Q E h => ?_) (fun f cdv A outer s H vs Q E hr h => ?_)
  · obtain ⟨c, r, rfl, _⟩ := h; rfl
  · obtain ⟨c, r, rfl, h1, h2, h3, q⟩ := h
    refine ⟨_, (pss_one (ps_ret (pe_ifExp (PW.pt (pw_and (pt_cmpR op_gt (pv 0) pe_int (nomark _)) (pw_and1 (pt_cmpR op_gt (pv 1) pe_int (nomark _))))) (pe_op op_repA (pe_tup (pa_cons (pv 1) pa_nil)) (pv 0)) (pe_tup pa_nil)))), ?_⟩
    refine ⟨.int c, rfl, c, 0, rfl, rfl, _, rfl, ?_⟩
    rw [decide_eq_true (show (0 : Int) < c by omega)]
    refine iteT ⟨.int r, rfl, r, 0, rfl, rfl, _, rfl, ?_⟩
    rw [decide_eq_true (show (0 : Int) < r by omega)]
    refine iteT ⟨.int r, rfl, by show 1 ≤ sizeLine; decide, fun p np => ⟨.int c, rfl, p, c, [.int r], rfl, rfl, upd_same, by simp, h1, by omega, by simp, fun H' p' s' e' => ?_⟩⟩
    refine q _ _ ((sm_new np).trans s') (e'.trans ?_)
    unfold boxOf
    rw [List.map_replicate, List.flatten_replicate_singleton]
theorem ok_holds (B : Bi mg) (D : Here K mg "holds_in" sholds_in ["heap", "other"]) : Ok P w K mg base 1 "holds_in" ["heap", "other"] spHolds := by
  refine D.ok scholds_in (fun vs H Q E h => ?_) (fun f cdv A outer s H vs Q E hr h => ?_)
  · obtain ⟨a, b, x, y, rfl, _⟩ := h; rfl
  · obtain ⟨a, b, x, y, rfl, ha, hb, hl, q⟩ := h
    have hT : SqT K H a (x.map V.int) := .inl (.inl ha)
    have hU : SqT K H b (y.map V.int) := .inl (.inl hb)
    refine ⟨_, (pss_one (ps_ret (pe_and (pe_cmpR op_le (pe_callB (kLen K) (by rfl) B.len PySem.boot_len (pa_cons (pv 1) pa_nil)) (pe_callB (kLen K) (by rfl) B.len PySem.boot_len (pa_cons (pv 0) pa_nil)) (nomark _)) (pe_one (pe_callB (kAll K rfl) (by rfl) B.all bt_all (pa_cons (pe_lc (own := [("one", 2), ("two", 3)]) rfl scholds_in.nd (RZ.pi_zipA (by rfl) B.zip (pa_cons (pv 0) (pa_cons (pv 1) pa_nil))) (blkOk_by (N := ["heap", "other", "one", "two"]) (sc := defScope sholds_in) (by decide +kernel)) (fun _ _ _ _ _ => (pg_tupK (n := 2) K rfl (pgs_cons (pg_name (i := 2) scholds_in.nd rfl (by first | exact Or.inl rfl | exact Or.inr rfl)) (pgs_cons (pg_name (i := 3) scholds_in.nd rfl (by first | exact Or.inl rfl | exact Or.inr rfl)) pgs_nil)))) (fun _ _ _ _ _ => pts_nil) (fun _ _ _ _ _ => (pe_cmpR op_ge (pv 2) (pv 3) (nomark _)))) pa_nil)))))), ?_⟩
    refine ⟨.ref b, rfl, b, _, rfl, .inr hU, .ref a, rfl, a, _, rfl, .inr hT, _, _, rfl, rfl, _, rfl, ?_⟩
    rw [List.length_map, List.length_map]
    refine ite2 (fun c => ?_) (fun c => ?_)
    · have hc : y.length ≤ x.length := by have := of_decide_eq_true c; omega
      refine ⟨.ref a, rfl, .ref b, rfl, a, b, _, _, rfl, .inr ⟨hT, hU, fun D nD => ?_⟩⟩
      refine lc_z V.int V.int x y (fun q => some (.bl (decide (q.2 ≤ q.1)))) nD (by omega) hT hU (fun i c d T H2 P1 P0 e1 e2 s2 hT2 k1 k0 => ?_) fun H5 s5 e5 => ?_
      · exact ⟨T, _, rfl, .inl (.inl hT2), rfl, _, _, rfl, _, _, rfl, rfl, rfl, lc_yes ⟨.int c, rfl, .int d, rfl, c, d, rfl, rfl, k1 _ _ rfl (Same.refl _)⟩⟩
      · refine ⟨D, (x.zip y).map fun q => decide (q.2 ≤ q.1), rfl, .inl (.inl (by rw [e5, fm_some, List.map_map]; rfl)), ?_⟩
        rw [all_id]
        have e : holds x y = (x.zip y).all fun q => decide (q.2 ≤ q.1) := by unfold holds; rw [decide_eq_true hc, Bool.true_and]
        rw [← e]; exact q _ s5
    · have hc : ¬ y.length ≤ x.length := fun z => c (decide_eq_true (by omega))
      have e : holds x y = false := by unfold holds; rw [decide_eq_false hc, Bool.false_and]
      rw [← e]; exact q _ (Same.refl _)
theorem ok_flip (B : Bi mg) (D : Here K mg "flipped_in" sflipped_in ["heap"]) : Ok P w K mg base 1 "flipped_in" ["heap"] spFlip := by
  refine D.ok scflipped_in (fun vs H Q E h => ?_) (fun f cdv A outer s H vs Q E hr h => ?_)
  · obtain ⟨a, h, rfl, _⟩ := h; rfl
  · obtain ⟨a, h, rfl, ha, hb, q⟩ := h
    have hT : SqT K H a (h.map V.int) := .inl (.inl ha)
    have hm := maxI_bd hb
    refine ⟨_, (pss_one (ps_ret (pe_callTy (kTupOf K) (by rfl) B.tuple bt_tuple (pa_cons (pe_lc (own := [("row", 1)]) rfl scflipped_in.nd (pi_range1 rfl B.range (pa_cons (pe_callBK (cr_maxD rfl) (by rfl) B.max bt_max (pa_cons (pv 0) pa_nil) (pk_cons pe_int pk_nil)) pa_nil)) (blkOk_by (N := ["heap", "row", "height"]) (sc := defScope sflipped_in) (by decide +kernel)) (fun _ _ _ _ _ => (pg_name (i := 1) scflipped_in.nd rfl (by first | exact Or.inl rfl | exact Or.inr rfl))) (fun _ _ _ _ _ => pts_nil) (fun _ _ _ _ _ => (pe_callB (kLen K) (by rfl) B.len PySem.boot_len (pa_cons (pe_lc (own := [("height", 2)]) rfl scflipped_in.nd (pi_tupK K (pv 0)) (blkOk_in (blkOk_by (N := ["heap", "row", "height"]) (by decide +kernel))) (fun _ _ _ _ _ => (pg_name (i := 2) scflipped_in.nd rfl (by first | exact Or.inl rfl | exact Or.inr rfl))) (fun _ _ _ _ _ => (pts_one (pt_cmpR op_gt (pv 2) (pv 1) (nomark _)))) (fun _ _ _ _ _ => (pv 2))) pa_nil)))) pa_nil)))), ?_⟩
    refine ⟨.ref a, rfl, a, h, 0, rfl, rfl, hT, fun m em => ?_⟩
    rw [maxI_is em]
    refine ⟨maxI h, rfl, by omega, by omega, fun D nD => ?_⟩
    refine lc_r (lo := 0) (n := (maxI h).toNat) (fun row => some (.int (((h.filter fun x => decide (row < x)).length : Nat) : Int))) nD (by omega) (fun i c H2 P1 P0 ec hi s2 k1 k0 => ?_) fun H3 s3 e3 => ?_
    · refine ⟨rfl, lc_yes ⟨.ref a, rfl, a, rfl, ⟨_, sm_tup s2 hT⟩, fun D2 nD2 => ?_⟩⟩
      refine lc_t V.int h (fun x => if decide (c < x) = true then some (.int x) else none) nD2 (by have := hb.1; omega) (sm_tup s2 hT) (fun i x H4 P1' P0' e s4 k1' k0' => ?_) fun H5 s5 e5 => ?_
      · refine ⟨rfl, .int x, rfl, .int c, rfl, x, c, rfl, rfl, _, rfl, ite2 (fun z => ?_) (fun z => ?_)⟩
        · exact ⟨.int x, rfl, k1' _ _ (if_pos z) (Same.refl _)⟩
        · exact k0' _ (if_neg z) (Same.refl _)
      · refine ⟨D2, _, rfl, .inl (.inl (.inl e5)), ?_⟩
        rw [fm_if (fun x => decide (c < x)) V.int h, List.length_map]
        exact k1 _ _ rfl s5
    · refine ⟨D, _, rfl, .inl ⟨.inl (.inl e3), fun p np => ?_⟩⟩
      refine q _ _ (s3.trans (sm_new np)) ?_
      rw [upd_same, fm_some, flipd, List.map_map]
      rfl
end
end L2.Q67
namespace L2.Q67
open PySem PySem.Spec PyProof.Rows R67
/-! ### a comprehension whose elements are new objects: what they are by a relation -/
theorem paired_snoc {α β : Type} {R : α → β → Prop} : ∀ {xs : List α} {ys : List β} {x : α} {y : β}, Paired R xs ys → R x y → Paired R (xs ++ [x]) (ys ++ [y])
  | _, _, _, _, .nil, h => .cons h .nil
  | _, _, _, _, .cons a t, h => .cons a (paired_snoc t h)
theorem paired_mono {α β : Type} {R S : α → β → Prop} (m : ∀ x y, R x y → S x y) : ∀ {xs : List α} {ys : List β}, Paired R xs ys → Paired S xs ys
  | _, _, .nil => .nil
  | _, _, .cons a t => .cons (m _ _ a) (paired_mono m t)
/-- y is a tuple of F c -/
def TupF {γ : Type} (F : γ → List V) (H : Hp) (y : V) (c : γ) : Prop := ∃ t, y = .ref t ∧ H t = some (.tup (F c))
theorem tupF_up {γ : Type} {F : γ → List V} {H : Hp} {D : Addr} {y : V} {c : γ} {acc : List V} {o : HO} (h : TupF F H y c) (hD : H D = some (.lst acc)) : TupF F (upd H D o) y c := by
  obtain ⟨t, e, ht⟩ := h
  exact ⟨t, e, by rw [upd_ne (ne_of ht hD (by intro z; cases z))]; exact ht⟩
theorem tupF_same {γ : Type} {F : γ → List V} {H H' : Hp} {y : V} {c : γ} (h : TupF F H y c) (s : Same H H') : TupF F H' y c := by
  obtain ⟨t, e, ht⟩ := h
  exact ⟨t, e, s _ _ ht⟩
theorem lc_wr {J : It} {G : Hp → Prop} {Y : Nat → Hp → V → Hp → Prop} {γ : Type} (l : List γ) (F : γ → List V) (w : Walk J l.length G Y) {g : TG} {tt : TT} {te : TE} {vs : List Nat} {σ : St} {H1 : Hp} {D : Addr} {Qd : Hp → Prop} (nD : H1 D = none) (hn : l.length ≤ 4000) (hG : ∀ H, Same H1 H → G H)
    (hs : ∀ (i : Nat) (c : γ) (x : V) (H H' : Hp) (P1 : V → Hp → Prop) (P0 : Hp → Prop), l[i]? = some c → Same H1 H → Y i H x H' → (∀ y H4, Same H H4 → TupF F H4 y c → P1 y H4) → g x (wipe σ vs) H' fun σ2 H2 => wipe σ2 vs = wipe σ vs ∧ tt σ2 H2 fun b H3 => if b = true then te σ2 H3 P1 else P0 H3)
    (hd : ∀ H ys, Same H1 H → H D = some (.lst ys) → Paired (TupF F H) ys l → Qd H) :
    LcEnd J g tt te vs σ H1 D Qd := by
  refine lc_it w (fun i H => i ≤ l.length ∧ Same H1 H ∧ ∃ ys, H D = some (.lst ys) ∧ Paired (TupF F H) ys (l.take i)) ⟨Nat.zero_le _, sm_new nD, [], upd_same, .nil⟩ (fun i H _ p => hG H p.2.1) (fun i x H H' hi p y => ?_) fun H p => ?_
  · obtain ⟨h1, h2, ys, h3, h4⟩ := p
    have e : l[i]? = some l[i] := List.getElem?_eq_getElem hi
    refine hs i l[i] x H H' _ _ e h2 y fun y H4 s4 r => ?_
    have z := s4 _ _ h3
    refine ⟨ys, z, ?_, hi, sm_grow (h2.trans s4) nD, ys ++ [y], upd_same, ?_⟩
    · have := Paired.length h4
      rw [List.length_take] at this
      rw [sizeLine_eq]; omega
    · rw [List.take_add_one, e]
      exact paired_snoc (paired_mono (fun y c q => tupF_up (tupF_same q s4) z) h4) (tupF_up r z)
  · obtain ⟨_, h2, ys, h3, h4⟩ := p
    rw [List.take_length] at h4
    exact hd H ys h2 h3 h4
/-- such a list as places with what stands there -/
theorem tupF_list {γ : Type} {F : γ → List V} {H : Hp} : ∀ {ys : List V} {l : List γ}, Paired (TupF F H) ys l → ∃ ps : List (Addr × γ), ys = ps.map (fun p => V.ref p.1) ∧ ps.map (·.2) = l ∧ ∀ p ∈ ps, H p.1 = some (.tup (F p.2))
  | _, _, .nil => ⟨[], rfl, rfl, fun p hp => by cases hp⟩
  | _, c :: l, .cons h t => by
    obtain ⟨a, rfl, ha⟩ := h
    obtain ⟨ps, rfl, rfl, hp⟩ := tupF_list t
    refine ⟨(a, c) :: ps, rfl, rfl, fun p hq => ?_⟩
    rcases List.mem_cons.mp hq with e | hq
    · rw [e]; exact ha
    · exact hp p hq
/-! ### the heights with 0 behind them -/
theorem at_gz {h : Hg} {c : Int} (h0 : 0 ≤ c) (h1 : c ≤ h.length) : atI (h.map V.int ++ [V.int 0]) c = some (.int (gz h c)) := by
  obtain ⟨k, rfl⟩ : ∃ k : Nat, c = k := ⟨c.toNat, by omega⟩
  refine atI_nat ?_
  unfold gz
  rw [Int.toNat_natCast, List.getD_eq_getElem?_getD]
  by_cases hk : k < h.length
  · rw [List.getElem?_append_left (by rw [List.length_map]; exact hk), List.getElem?_map, List.getElem?_eq_getElem hk]; rfl
  · have e : k = (h.map V.int).length := by rw [List.length_map]; omega
    have e2 : h[k]? = none := List.getElem?_eq_none (by omega)
    rw [List.getElem?_append_right (by omega), e2, show k - (h.map V.int).length = 0 by omega]; rfl
theorem add_bd {h : Hg} {c : Int} (hc : c ∈ addCols h) : 0 ≤ c ∧ c ≤ h.length := by
  have := (List.mem_filter.mp hc).1
  obtain ⟨i, hi, e⟩ := List.mem_map.mp this
  have := List.mem_range.mp hi
  omega
theorem add_len (h : Hg) : (addCols h).length ≤ h.length + 1 := by
  have := List.length_filter_le (isTop h) (downs h.length)
  unfold downs at this
  rw [List.length_map, List.length_range] at this
  exact this
def spAdd : Sp := fun vs H Q _ => ∃ (a : Addr) (h : Hg), vs = [.ref a] ∧ H a = some (.tup (h.map V.int)) ∧ h.length ≤ 60 ∧ ∀ H' p, Same H H' → H' p = some (.lst ((addCols h).map V.int)) → Q (.ref p) H'
def spCan : Sp := fun vs H Q _ => ∃ (a : Addr) (h : Hg), vs = [.ref a] ∧ H a = some (.tup (h.map V.int)) ∧ h.length ≤ 60 ∧ ∀ H' p, Same H H' → H' p = some (.lst ((canAdd h).map V.int)) → Q (.ref p) H'
def spRisen : Sp := fun vs H Q _ => ∃ (a b : Addr) (h : Hg) (cols : List Int), vs = [.ref a, .ref b] ∧ H a = some (.tup (h.map V.int)) ∧ H b = some (.lst (cols.map V.int)) ∧ h.length ≤ 60 ∧ ∀ H' p, Same H H' → H' p = some (.tup ((risen h cols).map V.int)) → Q (.ref p) H'
def spGrown : Sp := fun vs H Q _ => ∃ (a b : Addr) (h : Hg) (q : Int × Int) (x : Int), vs = [.ref a, .ref b, .int x] ∧ H a = some (.tup (h.map V.int)) ∧ isRing H b q ∧ 0 < q.1 ∧ 0 < q.2 ∧ q.2 ≤ 100 ∧ h.length ≤ 60 ∧ ∀ H' p, Same H H' → H' p = some (.tup ((grown h q.1 q.2 x).map V.int)) → Q (.ref p) H'
abbrev saddable_columns : Stmt := topS 24
theorem scaddable_columns : FnScope ["heap", "heights", "column"] ["heap"] (defScope saddable_columns) := ⟨rfl, rfl, rfl, by decide +kernel, rfl, by decide +kernel, by decide +kernel⟩

abbrev scan_add_in : Stmt := topS 25
theorem sccan_add_in : FnScope ["heap", "heights", "column"] ["heap"] (defScope scan_add_in) := ⟨rfl, rfl, rfl, by decide +kernel, rfl, by decide +kernel, by decide +kernel⟩

abbrev srisen : Stmt := topS 26
theorem scrisen : FnScope ["heap", "columns", "heights", "column", "height"] ["heap", "columns"] (defScope srisen) := ⟨rfl, rfl, rfl, by decide +kernel, rfl, by decide +kernel, by decide +kernel⟩

abbrev sgrown_in : Stmt := topS 27
theorem scgrown_in : FnScope ["heap", "ring", "place", "size", "step", "heights", "diagonals", "column", "diagonal"] ["heap", "ring", "place"] (defScope sgrown_in) := ⟨rfl, rfl, rfl, by decide +kernel, rfl, by decide +kernel, by decide +kernel⟩

theorem line_of {n : Nat} (h : n ≤ 4000) : n ≤ sizeLine := by rw [sizeLine_eq]; omega
section
variable {P : Program} {w : World} {K : PySem.W.Frag} {mg : Str → Option Value} {base : Heap}
theorem ok_add (B : Bi mg) (D : Here K mg "addable_columns" saddable_columns ["heap"]) : Ok P w K mg base 1 "addable_columns" ["heap"] spAdd := by
  refine D.ok scaddable_columns (fun vs H Q E h => ?_) (fun f cdv A outer s H vs Q E hr h => ?_)
  · obtain ⟨a, h, rfl, _⟩ := h; rfl
  · obtain ⟨a, h, rfl, ha, hl, q⟩ := h
    have hT : SqT K H a (h.map V.int) := .inl (.inl ha)
    refine ⟨_, (pss_cons (ps_set (i := 1) scaddable_columns.nd rfl (.inr rfl) (pe_tup (pa_starK K (pv 0) (pa_cons pe_int pa_nil))))
      (pss_one (ps_ret (pe_lc (own := [("column", 2)]) rfl scaddable_columns.nd (pi_range3 rfl B.range (pa_cons (pe_callB (kLen K) (by rfl) B.len PySem.boot_len (pa_cons (pv 0) pa_nil)) (pa_cons (pe_un un_neg pe_int) (pa_cons (pe_un un_neg pe_int) pa_nil)))) (blkOk_by (N := ["heap", "heights", "column"]) (sc := defScope saddable_columns) (by decide +kernel)) (fun _ _ _ _ _ => (pg_name (i := 2) scaddable_columns.nd rfl (by first | exact Or.inl rfl | exact Or.inr rfl))) (fun _ _ _ _ _ => (pts_one (PW.pt (pw_or (pt_cmpR op_eq (pv 2) pe_int (nomark _)) (pw_or1 (pt_cmpR op_gt (pe_ix (kIxT K) (pv 1) (pe_op op_sub (pv 2) pe_int) (fun _ _ => rfl)) (pe_ix (kIxT K) (pv 1) (pv 2) (fun _ _ => rfl)) (nomark _))))))) (fun _ _ _ _ _ => (pv 2)))))), ?_⟩
    refine ⟨.ref a, rfl, a, _, rfl, .inl hT, line_of (by simp; omega), fun p np => ?_⟩
    have s1 : Same H (upd H p (.tup (h.map V.int ++ [V.int 0]))) := sm_new np
    have hp : (upd H p (.tup (h.map V.int ++ [V.int 0]))) p = some (.tup (h.map V.int ++ [V.int 0])) := upd_same
    refine ⟨.ref a, rfl, a, _, rfl, .inr (sm_tup s1 hT), 1, rfl, 1, rfl, (h.length : Int), -1, -1, h.length + 1, by rw [List.length_map], ?_, fun L nL => ?_⟩
    · have := RgC.neg (i := (h.length : Int)) (j := -1) (by omega) (by omega) (by omega) (by omega)
      rw [show ((h.length : Int) - -1).toNat = h.length + 1 by omega] at this
      exact this
    · refine lc_rc (lo := (h.length : Int)) (st := -1) (n := h.length + 1) (fun c => if isTop h c = true then some (.int c) else none) nL (by omega) (fun i c H2 P1 P0 ec hi s2 k1 k0 => ?_) fun H3 s3 e3 => ?_
      · have hP : SqT K H2 p (h.map V.int ++ [V.int 0]) := .inl (.inl (s2 _ _ hp))
        have b0 : 0 ≤ c := by omega
        have b1 : c ≤ h.length := by omega
        refine ⟨rfl, .int c, rfl, rfl, _, rfl, ite2 (fun z => ?_) (fun z => ?_)⟩
        · have z' : c = 0 := V.int.inj (of_decide_eq_true z)
          have e : isTop h c = true := by unfold isTop; rw [decide_eq_true z', Bool.true_or]
          exact iteT ⟨.int c, rfl, k1 _ _ (if_pos e) (Same.refl _)⟩
        · have z' : ¬ c = 0 := fun y => z (decide_eq_true (by rw [y]))
          refine ⟨.ref p, rfl, .int c, rfl, c, 1, rfl, rfl, p, _, c - 1, _, rfl, rfl, hP, at_gz (by omega) (by omega), .ref p, rfl, .int c, rfl, p, _, c, _, rfl, rfl, hP, at_gz b0 b1, _, _, rfl, rfl, _, rfl, ?_⟩
          have e : isTop h c = decide (gz h c < gz h (c - 1)) := by unfold isTop; rw [decide_eq_false z', Bool.false_or]
          rw [← e]
          refine ite2 (fun y => ?_) (fun y => ?_)
          · exact ⟨.int c, rfl, k1 _ _ (if_pos y) (Same.refl _)⟩
          · exact k0 _ (if_neg y) (Same.refl _)
      · exact q _ _ (s1.trans s3) (by rw [e3, fm_if]; rfl)
theorem ok_can (B : Bi mg) (D : Here K mg "can_add_in" scan_add_in ["heap"]) (d_addable_columns : Ok P w K mg base 1 "addable_columns" ["heap"] spAdd) : Ok P w K mg base 2 "can_add_in" ["heap"] spCan := by
  refine D.ok sccan_add_in (fun vs H Q E h => ?_) (fun f cdv A outer s H vs Q E hr h => ?_)
  · obtain ⟨a, h, rfl, _⟩ := h; rfl
  · obtain ⟨a, h, rfl, ha, hl, q⟩ := h
    have hT : SqT K H a (h.map V.int) := .inl (.inl ha)
    refine ⟨_, (pss_cons (ps_set (i := 1) sccan_add_in.nd rfl (.inr rfl) (pe_tup (pa_starK K (pv 0) (pa_cons pe_int pa_nil))))
      (pss_one (ps_ret (pe_callB (kSorted K) (by rfl) B.sorted bt_sorted (pa_cons (pe_lc (own := [("column", 2)]) rfl sccan_add_in.nd (pi_listK K (pe_own d_addable_columns hr (pa_cons (pv 0) pa_nil))) (blkOk_by (N := ["heap", "heights", "column"]) (sc := defScope scan_add_in) (by decide +kernel)) (fun _ _ _ _ _ => (pg_name (i := 2) sccan_add_in.nd rfl (by first | exact Or.inl rfl | exact Or.inr rfl))) (fun _ _ _ _ _ => pts_nil) (fun _ _ _ _ _ => (pe_op op_sub (pv 2) (pe_ix (kIxT K) (pv 1) (pv 2) (fun _ _ => rfl))))) pa_nil))))), ?_⟩
    refine ⟨.ref a, rfl, a, _, rfl, .inl hT, line_of (by simp; omega), fun p np => ?_⟩
    have s1 : Same H (upd H p (.tup (h.map V.int ++ [V.int 0]))) := sm_new np
    have hp : (upd H p (.tup (h.map V.int ++ [V.int 0]))) p = some (.tup (h.map V.int ++ [V.int 0])) := upd_same
    refine ⟨.ref a, rfl, a, h, rfl, s1 _ _ ha, hl, fun H2 b s2 hb => ⟨b, rfl, ⟨_, .inl (.inl hb)⟩, fun L nL => ?_⟩⟩
    have al := add_len h
    refine lc_l V.int (addCols h) (fun c => some (.int (diag h c))) nL (by omega) (.inl (.inl hb)) (fun i c H3 P1 P0 ec s3 k1 k0 => ?_) fun H3 s3 e3 => ?_
    · have hP : SqT K H3 p (h.map V.int ++ [V.int 0]) := .inl (.inl (s3 _ _ (s2 _ _ hp)))
      obtain ⟨b0, b1⟩ := add_bd (mem_at ec)
      exact ⟨rfl, lc_yes ⟨.int c, rfl, .ref p, rfl, .int c, rfl, p, _, c, _, rfl, rfl, hP, at_gz b0 b1, c, gz h c, rfl, rfl, k1 _ _ rfl (Same.refl _)⟩⟩
    · rw [fm_some] at e3
      refine ⟨L, (addCols h).map (diag h), rfl, .inl (.inl (by rw [e3, List.map_map]; rfl)), by rw [List.length_map]; omega, fun ns t pm st nt => ?_⟩
      refine q _ _ (s1.trans (s2.trans (s3.trans (sm_new nt)))) ?_
      rw [upd_same, isort_unique pm st]; rfl
end
end L2.Q67
namespace L2.Q67
open PySem PySem.Spec PyProof.Rows R67
theorem in_ints (i : Int) : ∀ cols : List Int, inV (.int i) (cols.map V.int) = cols.contains i
  | [] => rfl
  | x :: r => by
    have ih := in_ints i r
    rw [List.contains_cons]
    show (eqV _ _ || inV (.int i) (r.map V.int)) = _
    rw [ih]
    congr 1
    show (x == i) = (i == x)
    by_cases e : x = i
    · rw [e]
    · rw [beq_eq_false_iff_ne.mpr e, beq_eq_false_iff_ne.mpr (Ne.symm e)]
theorem flat_ints : ∀ cols : List Int, (cols.map V.int).all flatV = true
  | [] => rfl
  | x :: r => by rw [List.map_cons, List.all_cons, flat_ints r]; rfl
section
variable {P : Program} {w : World} {K : PySem.W.Frag} {mg : Str → Option Value} {base : Heap}
theorem ok_risen (B : Bi mg) (D : Here K mg "risen" srisen ["heap", "columns"]) : Ok P w K mg base 1 "risen" ["heap", "columns"] spRisen := by
  refine D.ok scrisen (fun vs H Q E h => ?_) (fun f cdv A outer s H vs Q E hr h => ?_)
  · obtain ⟨a, b, h, cols, rfl, _⟩ := h; rfl
  · obtain ⟨a, b, h, cols, rfl, ha, hb, hl, q⟩ := h
    have hT : SqT K H a (h.map V.int) := .inl (.inl ha)
    refine ⟨_, (pss_cons (ps_setLc (i := 2) (own := [("column", 3), ("height", 4)]) rfl scrisen.nd rfl rfl (sw_true rfl rfl rfl (by decide +kernel)) (pi_enumT (by rfl) B.enumerate (pa_cons (pe_tup (pa_starK K (pv 0) (pa_cons pe_int pa_nil))) pa_nil)) (blkOk_by (N := ["heap", "columns", "heights", "column", "height"]) (sc := defScope srisen) (by decide +kernel)) (fun _ _ _ _ _ => (pg_tupK (n := 2) K rfl (pgs_cons (pg_name (i := 3) scrisen.nd rfl (by first | exact Or.inl rfl | exact Or.inr rfl)) (pgs_cons (pg_name (i := 4) scrisen.nd rfl (by first | exact Or.inl rfl | exact Or.inr rfl)) pgs_nil)))) (fun _ _ _ _ _ => pts_nil) (fun _ _ _ _ _ => (pe_op op_add (pv 4) (pe_callTy call_int1 (by rfl) B.int bt_int (pa_cons (pe_cmpR (kInS K) (pv 3) (pv 1) (by rfl)) pa_nil)))))
      (pss_one (ps_ret (pe_callTy (kTupOf K) (by rfl) B.tuple bt_tuple (pa_cons (pe_lc (own := [("height", 4)]) rfl scrisen.nd (pi_listK K (pv 2)) (blkOk_by (N := ["heap", "columns", "heights", "column", "height"]) (sc := defScope srisen) (by decide +kernel)) (fun _ _ _ _ _ => (pg_name (i := 4) scrisen.nd rfl (by first | exact Or.inl rfl | exact Or.inr rfl))) (fun _ _ _ _ _ => (pts_one (pt_cmpR op_gt (pv 4) pe_int (nomark _)))) (fun _ _ _ _ _ => (pv 4))) pa_nil))))), ?_⟩
    refine ⟨.ref a, rfl, a, _, rfl, .inl hT, line_of (by simp; omega), fun p np => ?_⟩
    have s1 : Same H (upd H p (.tup (h.map V.int ++ [V.int 0]))) := sm_new np
    have hp : SqT K (upd H p (.tup (h.map V.int ++ [V.int 0]))) p ((h ++ [0]).map V.int) := .inl (.inl (by rw [List.map_append]; exact upd_same))
    have hlen : (h ++ [0]).length ≤ 4000 := by rw [List.length_append, List.length_singleton]; omega
    refine ⟨p, _, rfl, hp, fun L nL => ?_⟩
    have w1 := walk_enumT (K := K) (a := p) (xs := (h ++ [0]).map V.int)
    rw [List.length_map] at w1
    refine lc_ew (h ++ [0]) w1 (fun p => some (.int (p.2 + b2 (cols.contains p.1)))) nL hlen (fun H s => sm_tup s hp) (fun i x T H2 P1 P0 ec s2 hT2 k1 k0 => ?_) fun H3 s3 e3 => ?_
    · have hB : SqL K H2 b (cols.map V.int) := .inl (.inl (s2 _ _ (s1 _ _ hb)))
      refine ⟨T, _, rfl, .inl (.inl hT2), rfl, _, _, rfl, _, _, rfl, rfl, rfl, lc_yes ?_⟩
      refine ⟨.int x, rfl, .int i, rfl, .ref b, rfl, b, _, rfl, .inl hB, rfl, flat_ints cols, .inr ⟨_, rfl, x, _, rfl, rfl, ?_⟩⟩
      have e : (if (if false = true then !inV (.int (i : Nat)) (cols.map V.int) else inV (.int (i : Nat)) (cols.map V.int)) = true then (1 : Int) else 0) = b2 (cols.contains ((i : Nat) : Int)) := by
        rw [if_neg Bool.false_ne_true, in_ints]; rfl
      rw [e]
      exact k1 _ _ rfl (Same.refl _)
    · rw [fm_some] at e3
      have hL : SqL K H3 L (((enumI 0 (h ++ [0])).map fun p => p.2 + b2 (cols.contains p.1)).map V.int) := .inl (.inl (by rw [e3, List.map_map]; rfl))
      refine ⟨.ref L, rfl, L, rfl, ⟨_, hL⟩, fun L2 nL2 => ?_⟩
      have el : ((enumI 0 (h ++ [0])).map fun p => p.2 + b2 (cols.contains p.1)).length ≤ 4000 := by rw [List.length_map, enumI_len]; exact hlen
      refine lc_l V.int _ (fun x => if pos x = true then some (.int x) else none) nL2 el hL (fun i x H4 P1 P0 e s4 k1 k0 => ?_) fun H5 s5 e5 => ?_
      · refine ⟨rfl, .int x, rfl, x, 0, rfl, rfl, _, rfl, ite2 (fun z => ?_) (fun z => ?_)⟩
        · exact ⟨.int x, rfl, k1 _ _ (if_pos z) (Same.refl _)⟩
        · exact k0 _ (if_neg z) (Same.refl _)
      · refine ⟨L2, _, rfl, .inl ⟨.inl (.inl e5), fun t nt => ?_⟩⟩
        refine q _ _ (s1.trans (s3.trans (s5.trans (sm_new nt)))) ?_
        rw [upd_same, fm_if]; rfl
theorem ok_grown (B : Bi mg) (D : Here K mg "grown_in" sgrown_in ["heap", "ring", "place"]) (d_addable_columns : Ok P w K mg base 1 "addable_columns" ["heap"] spAdd) (d_risen : Ok P w K mg base 1 "risen" ["heap", "columns"] spRisen) :
    Ok P w K mg base 2 "grown_in" ["heap", "ring", "place"] spGrown := by
  refine D.ok scgrown_in (fun vs H Q E h => ?_) (fun f cdv A outer s H vs Q E hr h => ?_)
  · obtain ⟨a, b, h, qq, x, rfl, _⟩ := h; rfl
  · obtain ⟨a, b, h, ⟨n, st⟩, x, rfl, ha, hb, hn, h1, h2, hl, q⟩ := h
    simp only at hn h1 h2 q
    have hT : SqT K H a (h.map V.int) := .inl (.inl ha)
    refine ⟨_, (pss_cons (ps_asg (pv 1) (pg_tupK (n := 2) K rfl (pgs_cons (pg_name (i := 3) scgrown_in.nd rfl (by first | exact Or.inl rfl | exact Or.inr rfl)) (pgs_cons (pg_name (i := 4) scgrown_in.nd rfl (by first | exact Or.inl rfl | exact Or.inr rfl)) pgs_nil))))
      (pss_cons (ps_set (i := 5) scgrown_in.nd rfl (.inr rfl) (pe_tup (pa_starK K (pv 0) (pa_cons pe_int pa_nil))))
      (pss_cons (ps_setLc (i := 6) (own := [("column", 7)]) rfl scgrown_in.nd rfl rfl (sw_true rfl rfl rfl (by decide +kernel)) (pi_listK K (pe_own d_addable_columns hr (pa_cons (pv 0) pa_nil))) (blkOk_by (N := ["heap", "ring", "place", "size", "step", "heights", "diagonals", "column", "diagonal"]) (sc := defScope sgrown_in) (by decide +kernel)) (fun _ _ _ _ _ => (pg_name (i := 7) scgrown_in.nd rfl (by first | exact Or.inl rfl | exact Or.inr rfl))) (fun _ _ _ _ _ => pts_nil) (fun _ _ _ _ _ => (pe_tup (pa_cons (pv 7) (pa_cons (pe_op op_sub (pv 7) (pe_ix (kIxT K) (pv 5) (pv 7) (fun _ _ => rfl))) pa_nil)))))
      (pss_one (ps_ret (pe_own d_risen hr (pa_cons (pv 0) (pa_cons (pe_lc (own := [("column", 7), ("diagonal", 8)]) rfl scgrown_in.nd (pi_listK K (pv 6)) (blkOk_by (N := ["heap", "ring", "place", "size", "step", "heights", "diagonals", "column", "diagonal"]) (sc := defScope sgrown_in) (by decide +kernel)) (fun _ _ _ _ _ => (pg_tupK (n := 2) K rfl (pgs_cons (pg_name (i := 7) scgrown_in.nd rfl (by first | exact Or.inl rfl | exact Or.inr rfl)) (pgs_cons (pg_name (i := 8) scgrown_in.nd rfl (by first | exact Or.inl rfl | exact Or.inr rfl)) pgs_nil)))) (fun _ _ _ _ _ => (pts_one (pt_cmpR op_eq (pe_op op_mod (pe_op op_sub (pe_op op_mul (pv 8) (pv 4)) (pv 2)) (pv 3)) pe_int (nomark _)))) (fun _ _ _ _ _ => (pv 7))) pa_nil)))))))), ?_⟩
    refine ⟨.ref b, rfl, b, _, rfl, .inl (.inl hb), rfl, _, _, rfl, _, _, rfl, rfl, ?_⟩
    refine ⟨.ref a, rfl, a, _, rfl, .inl hT, line_of (by simp; omega), fun p np => ?_⟩
    have s1 : Same H (upd H p (.tup (h.map V.int ++ [V.int 0]))) := sm_new np
    have hp : (upd H p (.tup (h.map V.int ++ [V.int 0]))) p = some (.tup (h.map V.int ++ [V.int 0])) := upd_same
    refine ⟨.ref a, rfl, a, h, rfl, s1 _ _ ha, hl, fun H2 c s2 hc => ⟨c, rfl, ⟨_, .inl (.inl hc)⟩, fun L nL => ?_⟩⟩
    have al := add_len h
    have hC : SqL K H2 c ((addCols h).map V.int) := .inl (.inl hc)
    have w1 := walk_list (K := K) (a := c) (xs := (addCols h).map V.int)
    rw [List.length_map] at w1
    refine lc_wr (addCols h) (fun c => [.int c, .int (diag h c)]) w1 nL (by omega) (fun H s => s.seq hC) (fun i c v H0 H3 P1 P0 ec s3 y k1 => ?_) fun H3 ys s3 e3 pr => ?_
    · obtain ⟨rfl, hv⟩ := y
      rw [at_map ec hv]
      have hP : SqT K H3 p (h.map V.int ++ [V.int 0]) := .inl (.inl (s3 _ _ (s2 _ _ hp)))
      obtain ⟨b0, b1⟩ := add_bd (mem_at ec)
      refine ⟨rfl, lc_yes ⟨.int c, rfl, .int c, rfl, .ref p, rfl, .int c, rfl, p, _, c, _, rfl, rfl, hP, at_gz b0 b1, c, gz h c, rfl, rfl, by show 2 ≤ sizeLine; decide, fun t nt => ?_⟩⟩
      exact k1 _ _ (sm_new nt) ⟨t, rfl, upd_same⟩
    · obtain ⟨ps, rfl, e4, hps⟩ := tupF_list pr
      have hL : SqL K H3 L (ps.map fun p => V.ref p.1) := .inl (.inl e3)
      refine ⟨.ref a, rfl, .ref L, rfl, L, rfl, ⟨_, hL⟩, fun L2 nL2 => ?_⟩
      have el : ps.length ≤ 4000 := by rw [← List.length_map (f := (·.2)), e4]; omega
      refine lc_l (fun p : Addr × Int => V.ref p.1) ps (fun p => if lets h n st x p.2 = true then some (.int p.2) else none) nL2 el hL (fun i r H4 P1 P0 e s4 k1 k0 => ?_) fun H5 s5 e5 => ?_
      · have hr2 := s4 _ _ (hps r (mem_at e))
        refine ⟨r.1, _, rfl, .inl (.inl hr2), rfl, _, _, rfl, _, _, rfl, rfl, rfl, ?_⟩
        refine ⟨.int (diag h r.2), rfl, .int st, rfl, _, _, rfl, rfl, .inr ⟨by omega, by omega⟩, .int x, rfl, _, _, rfl, rfl, .int n, rfl, _, _, rfl, rfl, hn, rfl, _, rfl, ?_⟩
        have e0 : decide (V.int ((diag h r.2 * st - x) % n) = V.int 0) = lets h n st x r.2 := decide_eq_decide.mpr ⟨fun z => V.int.inj z, fun z => by rw [z]⟩
        rw [e0]
        refine ite2 (fun z => ?_) (fun z => ?_)
        · exact ⟨.int r.2, rfl, k1 _ _ (if_pos z) (Same.refl _)⟩
        · exact k0 _ (if_neg z) (Same.refl _)
      · have e6 : H5 L2 = some (.lst (((addCols h).filter (lets h n st x)).map V.int)) := by
          rw [e5, fm_if (fun p : Addr × Int => lets h n st x p.2) (fun p => V.int p.2) ps, ← e4, List.filter_map, List.map_map]; rfl
        exact ⟨a, L2, h, _, rfl, s5 _ _ (s3 _ _ (s2 _ _ (s1 _ _ ha))), e6, hl, fun H6 t s6 e7 => q _ _ (s1.trans (s2.trans (s3.trans (s5.trans s6)))) e7⟩
end
end L2.Q67
namespace L2.Q67
open PySem PySem.Spec PyProof.Rows R67
theorem risen_len (h : Hg) (cols : List Int) : (risen h cols).length ≤ h.length + 1 := by
  unfold risen
  refine Nat.le_trans (List.length_filter_le _ _) ?_
  rw [List.length_map, enumI_len, List.length_append]; exact Nat.le_refl _
theorem grown_len (h : Hg) (n s p : Int) : (grown h n s p).length ≤ h.length + 1 := risen_len _ _
/-- the heap behind the first rings -/
def heapUp (qs : List ((Int × Int) × Int)) : Hg := qs.foldl (fun h q => grown h q.1.1 q.1.2 q.2) []
theorem heapUp_snoc (qs : List ((Int × Int) × Int)) (q : (Int × Int) × Int) : heapUp (qs ++ [q]) = grown (heapUp qs) q.1.1 q.1.2 q.2 := by
  unfold heapUp; rw [List.foldl_append]; rfl
theorem heapUp_len : ∀ (qs : List ((Int × Int) × Int)) (h : Hg), (qs.foldl (fun h q => grown h q.1.1 q.1.2 q.2) h).length ≤ h.length + qs.length
  | [], h => Nat.le_refl _
  | q :: qs, h => by
    rw [List.foldl_cons, List.length_cons]
    have := heapUp_len qs (grown h q.1.1 q.1.2 q.2)
    have := grown_len h q.1.1 q.1.2 q.2
    omega
def heapOf (l : List Lk) (ps : List Int) : Hg := heapIn (l.map (·.2)) ps
def spWith : Sp := fun vs H Q _ => ∃ (k c : Int) (a : Addr) (h : Hg), vs = [.int k, .ref a, .int c] ∧ H a = some (.tup (h.map V.int)) ∧ 0 < k ∧ h.length ≤ 60 ∧ ∀ H' p, Same H H' → H' p = some (.tup ((grown h k 1 c).map V.int)) → Q (.ref p) H'
def spHeapsIn : Sp := fun vs H Q _ => ∃ (a b : Addr) (l : List Lk) (ps : List Int), vs = [.ref a, .ref b] ∧ isChain H a l ∧ ChainOk l ∧ H b = some (.tup (ps.map V.int)) ∧ ps.length = l.length ∧ ∀ H' p xs t, Same H H' → H' p = some (.tup (xs ++ [.ref t])) → H' t = some (.tup ((heapOf l ps).map V.int)) → Q (.ref p) H'
def spHeapIn : Sp := fun vs H Q _ => ∃ (a b : Addr) (l : List Lk) (ps : List Int), vs = [.ref a, .ref b] ∧ isChain H a l ∧ ChainOk l ∧ H b = some (.tup (ps.map V.int)) ∧ ps.length = l.length ∧ ∀ H' t, Same H H' → H' t = some (.tup ((heapOf l ps).map V.int)) → Q (.ref t) H'
def spHeapOf : Sp := fun vs H Q _ => ∃ (a b : Addr) (l : List Lk) (ps : List Int), vs = [.ref a, .ref b] ∧ isChain H a l ∧ ChainOk l ∧ H b = some (.tup (ps.map V.int)) ∧ PlOk l ps ∧ ∀ H' t, Same H H' → H' t = some (.tup ((heapOf l ps).map V.int)) → Q (.ref t) H'
abbrev swith_letter_in : Stmt := topS 43
theorem scwith_letter_in : FnScope ["k", "core", "letter"] ["k", "core", "letter"] (defScope swith_letter_in) := ⟨rfl, rfl, rfl, by decide +kernel, rfl, by decide +kernel, by decide +kernel⟩

abbrev sheaps_in : Stmt := topS 28
theorem scheaps_in : FnScope ["chain", "places", "found", "ring", "place"] ["chain", "places"] (defScope sheaps_in) := ⟨rfl, rfl, rfl, by decide +kernel, rfl, by decide +kernel, by decide +kernel⟩

abbrev sheap_in : Stmt := topS 29
theorem scheap_in : FnScope ["chain", "places"] ["chain", "places"] (defScope sheap_in) := ⟨rfl, rfl, rfl, by decide +kernel, rfl, by decide +kernel, by decide +kernel⟩

abbrev sheap_of : Stmt := topS 30
theorem scheap_of : FnScope ["chain", "places"] ["chain", "places"] (defScope sheap_of) := ⟨rfl, rfl, rfl, by decide +kernel, rfl, by decide +kernel, by decide +kernel⟩

section
variable {P : Program} {w : World} {K : PySem.W.Frag} {mg : Str → Option Value} {base : Heap}
theorem ok_with (D : Here K mg "with_letter_in" swith_letter_in ["k", "core", "letter"]) (d_grown_in : Ok P w K mg base 2 "grown_in" ["heap", "ring", "place"] spGrown) : Ok P w K mg base 3 "with_letter_in" ["k", "core", "letter"] spWith := by
  refine D.ok scwith_letter_in (fun vs H Q E h => ?_) (fun f cdv A outer s H vs Q E hr h => ?_)
  · obtain ⟨k, c, a, h, rfl, _⟩ := h; rfl
  · obtain ⟨k, c, a, h, rfl, ha, hk, hl, q⟩ := h
    refine ⟨_, (pss_one (ps_ret (pe_own d_grown_in hr (pa_cons (pv 1) (pa_cons (pe_tup (pa_cons (pv 0) (pa_cons pe_int pa_nil))) (pa_cons (pv 2) pa_nil)))))), ?_⟩
    refine ⟨.ref a, rfl, .int k, rfl, by show 2 ≤ sizeLine; decide, fun p np => ⟨.int c, rfl, a, p, h, (k, 1), c, rfl, (sm_new np) _ _ ha, upd_same, hk, (by decide : (0 : Int) < 1), (by decide : (1 : Int) ≤ 100), hl, fun H' t s' e' => q _ _ ((sm_new np).trans s') e'⟩⟩
theorem ok_heaps (B : Bi mg) (D : Here K mg "heaps_in" sheaps_in ["chain", "places"]) (d_grown_in : Ok P w K mg base 2 "grown_in" ["heap", "ring", "place"] spGrown) : Ok P w K mg base 3 "heaps_in" ["chain", "places"] spHeapsIn := by
  refine D.ok scheaps_in (fun vs H Q E h => ?_) (fun f cdv A outer s H vs Q E hr h => ?_)
  · obtain ⟨a, b, l, ps, rfl, _⟩ := h; rfl
  · obtain ⟨a, b, l, ps, rfl, hc, ⟨o1, o2, o3⟩, hb, hl, q⟩ := h
    have hT : SqT K H a (l.map fun c => V.ref c.1) := .inl (.inl hc.1)
    have hU : SqT K H b (ps.map V.int) := .inl (.inl hb)
    refine ⟨_, (pss_cons (ps_set (i := 2) scheaps_in.nd rfl (.inl rfl) (pe_lst (pa_cons (pe_tup pa_nil) pa_nil)))
      (pss_cons (ps_for PassesOwn.never rfl (RZ.pi_zipA (by rfl) B.zip (pa_cons (pv 0) (pa_cons (pv 1) pa_nil))) (pg_tupK (n := 2) K rfl (pgs_cons (pg_name (i := 3) scheaps_in.nd rfl (by first | exact Or.inl rfl | exact Or.inr rfl)) (pgs_cons (pg_name (i := 4) scheaps_in.nd rfl (by first | exact Or.inl rfl | exact Or.inr rfl)) pgs_nil)))
        (pss_one (ps_expr (pe_bm PySem.F.plainAttrs_list PySem.F.slot_list_append PySem.F.type_list_append mt_append (pv 2) (pa_cons (pe_own d_grown_in hr (pa_cons (pe_ix (kIxL K) (pv 2) (pe_un un_neg pe_int) (fun _ _ => rfl)) (pa_cons (pv 3) (pa_cons (pv 4) pa_nil)))) pa_nil)))))
      (pss_one (ps_ret (pe_callTy (kTupOf K) (by rfl) B.tuple bt_tuple (pa_cons (pv 2) pa_nil)))))), ?_⟩
    refine ⟨Nat.zero_le _, fun t0 nt0 => ⟨by show 1 ≤ sizeLine; decide, fun F nF => ?_⟩⟩
    have s1 : Same H (upd (upd H t0 (.tup [])) F (.lst [V.ref t0])) := (sm_new nt0).trans (sm_new nF)
    have nF0 : H F = none := by
      cases e : H F with
      | none => rfl
      | some o => exact absurd ((sm_new nt0) _ _ e) (by rw [nF]; intro z; cases z)
    have ht0 : (upd (upd H t0 (.tup [])) F (.lst [V.ref t0])) t0 = some (.tup []) := by rw [upd_ne (ne_of_none upd_same nF), upd_same]
    refine ⟨.ref a, rfl, .ref b, rfl, a, b, _, _, rfl, .inr ⟨sm_tup s1 hT, sm_tup s1 hU, ?_⟩⟩
    have w1 := walk_zipT (K := K) (a := a) (b := b) (xs := l.map fun c : Lk => V.ref c.1) (ys := ps.map V.int) (n := l.length) (by rw [List.length_map, List.length_map, hl, Nat.min_self])
    refine for_it w1 (fun i σ H' => Same H H' ∧ ∃ xs t y3 y4, σ = [some (.ref a), some (.ref b), some (.ref F), y3, y4] ∧ H' F = some (.lst (xs ++ [V.ref t])) ∧ xs.length = i ∧ H' t = some (.tup ((heapUp (((l.map (·.2)).zip ps).take i)).map V.int)))
      ⟨s1, [], t0, none, none, rfl, upd_same, rfl, ht0⟩ (fun i σ H' _ p => ⟨sm_tup p.1 hT, sm_tup p.1 hU⟩) (fun i x σ H2 H2' hi p y => ?_) fun σ H2 p => ?_
    · obtain ⟨s2, xs, t, y3, y4, rfl, hF, hx, ht⟩ := p
      obtain ⟨T, vr, vp, rfl, nT, rfl, e1, e2⟩ := y
      have g1 : l[i]? = some l[i] := List.getElem?_eq_getElem hi
      have hi2 : i < ps.length := by omega
      have g2 : ps[i]? = some ps[i] := List.getElem?_eq_getElem hi2
      have ev : vr = V.ref l[i].1 := at_map (φ := fun c : Lk => V.ref c.1) g1 e1
      have ep : vp = V.int ps[i] := at_map g2 e2
      subst ev; subst ep
      have sT : Same H2 (upd H2 T (.tup [V.ref l[i].1, V.int ps[i]])) := sm_new nT
      have hF2 := sT _ _ hF
      have hr2 := sT _ _ ((hc.same s2).2 l[i] (List.getElem_mem hi))
      obtain ⟨r1, r2, r3, r4⟩ := o3 l[i] (List.getElem_mem hi)
      have hlen : (heapUp (((l.map (·.2)).zip ps).take i)).length ≤ 60 := by
        have := heapUp_len (((l.map (·.2)).zip ps).take i) []
        rw [List.length_take] at this
        show (List.foldl _ [] _).length ≤ 60
        rw [List.length_nil] at this; omega
      refine ⟨T, _, rfl, .inl (.inl upd_same), rfl, _, _, rfl, _, _, rfl, rfl, ?_⟩
      refine ⟨.ref F, rfl, .inl ⟨rfl, _, .inl (.inl hF2)⟩, .ref F, rfl, 1, rfl, F, _, -1, .ref t, rfl, rfl, .inl (.inl hF2), atI_last _ _, .ref l[i].1, rfl, .int ps[i], rfl, ?_⟩
      refine ⟨t, l[i].1, _, l[i].2, ps[i], rfl, sT _ _ ht, hr2, by omega, by omega, by omega, hlen, fun H3 p s3 e3 => ?_⟩
      refine ⟨F, _, _, rfl, rfl, s3 _ _ hF2, ?_, ?_⟩
      · rw [sizeLine_eq, List.length_append, hx, List.length_singleton]; omega
      · refine ⟨sm_grow (s2.trans (sT.trans s3)) nF0, xs ++ [V.ref t], p, _, _, rfl, upd_same, ?_, ?_⟩
        · rw [List.length_append, hx]; rfl
        · rw [upd_ne (ne_of e3 (s3 _ _ hF2) (by intro z; cases z)), e3]
          have ez : ((l.map (·.2)).zip ps)[i]? = some (l[i].2, ps[i]) := List.getElem?_zip_eq_some.mpr ⟨by rw [List.getElem?_map, g1]; rfl, g2⟩
          rw [List.take_add_one, ez]
          show some (HO.tup _) = some (HO.tup ((heapUp (_ ++ [_])).map V.int))
          rw [heapUp_snoc]
    · obtain ⟨s2, xs, t, y3, y4, rfl, hF, hx, ht⟩ := p
      refine ⟨.ref F, rfl, F, _, rfl, .inl ⟨.inl (.inl hF), fun p np => ?_⟩⟩
      have sp := sm_new (o := .tup (xs ++ [V.ref t])) np
      refine q _ _ xs t (s2.trans sp) upd_same ?_
      rw [sp _ _ ht, List.take_of_length_le (by rw [List.length_zip, List.length_map]; omega)]; rfl
theorem ok_heapIn (D : Here K mg "heap_in" sheap_in ["chain", "places"]) (d_heaps_in : Ok P w K mg base 3 "heaps_in" ["chain", "places"] spHeapsIn) : Ok P w K mg base 4 "heap_in" ["chain", "places"] spHeapIn := by
  refine D.ok scheap_in (fun vs H Q E h => ?_) (fun f cdv A outer s H vs Q E hr h => ?_)
  · obtain ⟨a, b, l, ps, rfl, _⟩ := h; rfl
  · obtain ⟨a, b, l, ps, rfl, hc, o, hb, hl, q⟩ := h
    refine ⟨_, (pss_one (ps_ret (pe_ix (kIxT K) (pe_own d_heaps_in hr (pa_cons (pv 0) (pa_cons (pv 1) pa_nil))) (pe_un un_neg pe_int) (fun _ _ => rfl)))), ?_⟩
    exact ⟨.ref a, rfl, .ref b, rfl, a, b, l, ps, rfl, hc, o, hb, hl, fun H' p xs t s' e' et => ⟨1, rfl, p, _, -1, .ref t, rfl, rfl, .inl (.inl e'), atI_last _ _, q _ _ s' et⟩⟩
theorem ok_heapOf (D : Here K mg "heap_of" sheap_of ["chain", "places"]) (d_require_chain : Ok P w K mg base 5 "require_chain" ["value"] spReqChain) (d_require_tuple : Ok P w K mg base 5 "require_tuple" ["chain", "value"] spReqTuple) (d_heap_in : Ok P w K mg base 4 "heap_in" ["chain", "places"] spHeapIn) :
    Ok P w K mg base 6 "heap_of" ["chain", "places"] spHeapOf := by
  refine D.ok scheap_of (fun vs H Q E h => ?_) (fun f cdv A outer s H vs Q E hr h => ?_)
  · obtain ⟨a, b, l, ps, rfl, _⟩ := h; rfl
  · obtain ⟨a, b, l, ps, rfl, hc, o, hb, hp, q⟩ := h
    refine ⟨_, (pss_cons (ps_expr (pe_own d_require_chain hr (pa_cons (pv 0) pa_nil)))
      (pss_cons (ps_expr (pe_own d_require_tuple hr (pa_cons (pv 0) (pa_cons (pv 1) pa_nil))))
      (pss_one (ps_ret (pe_own d_heap_in hr (pa_cons (pv 0) (pa_cons (pv 1) pa_nil))))))), ?_⟩
    refine ⟨.ref a, rfl, a, l, rfl, hc, o, fun H1 s1 => ?_⟩
    refine ⟨.ref a, rfl, .ref b, rfl, a, b, l, ps, rfl, hc.same s1, o, s1 _ _ hb, hp, fun H2 s2 => ?_⟩
    exact ⟨.ref a, rfl, .ref b, rfl, a, b, l, ps, rfl, hc.same (s1.trans s2), o, (s1.trans s2) _ _ hb, hp.1, fun H3 t s3 e3 => q _ _ (s1.trans (s2.trans s3)) e3⟩
end
end L2.Q67
namespace L2.Q67
open PySem PySem.Spec PyProof.Rows R67
/-- sum of a tuple of ints -/
def rSumT (K : PySem.W.Frag) : List V → Hp → VK → Prop := fun vs H Q => ∃ (a : Addr) (ns : List Int), vs = [.ref a] ∧ SqT K H a (ns.map V.int) ∧ Q (.int ns.sum) H
theorem cr_sumT {X : Cx} (hc : X.calm = true) : CallR X (.builtin "sum") (rSumT X.K) := by
  rintro pn sa σ H vs us Q I r ⟨a, ns, rfl, sq, q⟩
  obtain ⟨zs, rel, ln, _⟩ := I.tuple sq
  rw [Vals.ref1 r]
  have ia := rel.ints
  obtain ⟨ys, ey⟩ := ia.allInts.items
  have en := ia.numsOf
  rw [show zs = (intItems ys).toList by rw [← ey], nums_intItems] at en
  have it : sa.heap.IsTuple a zs.toArray := ln
  rw [ey] at it
  refine PySem.W.ktm_sumG (I.ok.hd hc) it fun h2 tk t2 kp => ⟨.int _, H, I.kept kp, ⟨_, rfl⟩, ?_⟩
  rw [preSum_eq, List.take_of_length_le (by simp), en]; exact q
theorem kSumT {X : Cx} (K : PySem.W.Frag) (hc : X.calm = true) (h : X.K = K := by rfl) : CallR X (.builtin "sum") (rSumT K) := h ▸ cr_sumT hc
def spBeads : Sp := fun vs H Q _ => ∃ (a : Addr) (h : Hg), vs = [.ref a] ∧ H a = some (.tup (h.map V.int)) ∧ h.length ≤ 100 ∧ ∀ H' p, Same H H' → H' p = some (.lst ((beads h).map V.int)) → Q (.ref p) H'
def spCoreIn : Sp := fun vs H Q _ => ∃ (k : Int) (a : Addr) (h : Hg), vs = [.int k, .ref a] ∧ H a = some (.tup (h.map V.int)) ∧ h.length ≤ 100 ∧ ∀ H', Same H H' → Q (.bl (isCore k h)) H'
def spParts : Sp := fun vs H Q _ => ∃ (k : Int) (a : Addr) (h : Hg), vs = [.int k, .ref a] ∧ H a = some (.tup (h.map V.int)) ∧ Bd h ∧ ∀ H' p, Same H H' → H' p = some (.tup ((parts k h).map V.int)) → Q (.ref p) H'
def spLetters : Sp := fun vs H Q _ => ∃ (k : Int) (a : Addr) (h : Hg), vs = [.int k, .ref a] ∧ H a = some (.tup (h.map V.int)) ∧ Bd h ∧ ∀ H', Same H H' → Q (.int (letters k h)) H'
def spOrder : Sp := fun vs H Q _ => ∃ (k : Int), vs = [.int k] ∧ 2 ≤ k ∧ k ≤ 60 ∧ Q .non H
def spReqCore : Sp := fun vs H Q _ => ∃ (k : Int) (a : Addr) (h : Hg), vs = [.int k, .ref a] ∧ H a = some (.tup (h.map V.int)) ∧ 2 ≤ k ∧ k ≤ 60 ∧ heapOk h = true ∧ isCore k h = true ∧ ∀ H', Same H H' → Q .non H'
def spLettersOf : Sp := fun vs H Q _ => ∃ (k : Int) (a : Addr) (h : Hg), vs = [.int k, .ref a] ∧ H a = some (.tup (h.map V.int)) ∧ 2 ≤ k ∧ k ≤ 60 ∧ heapOk h = true ∧ isCore k h = true ∧ ∀ H', Same H H' → Q (.int (letters k h)) H'
theorem heapOk_bd {h : Hg} (o : heapOk h = true) : Bd h := by
  unfold heapOk at o
  simp only [Bool.and_eq_true] at o
  obtain ⟨⟨⟨_, o2⟩, o3⟩, _⟩ := o
  have hlen : h.length ≤ 60 := of_decide_eq_true o2
  refine ⟨by omega, fun x hx => ?_⟩
  have z := List.all_eq_true.mp o3 x hx
  rw [Bool.and_eq_true] at z
  have a := of_decide_eq_true z.1
  have b := of_decide_eq_true z.2
  omega
theorem flip_len (h : Hg) : (flipd h).length = (maxI h).toNat := by
  unfold flipd R67.rowsOf
  rw [List.length_map, List.length_map, List.length_range]
theorem at_flip {h : Hg} {x row : Int} (hx : x ∈ h) (h0 : 0 ≤ row) (h1 : row < x) : atI ((flipd h).map V.int) row = some (.int (gz (flipd h) row)) := by
  have hm : x ≤ maxI h := by
    rcases maxI_mem h with ⟨e, _⟩ | ⟨_, e⟩
    · rw [e] at hx; cases hx
    · exact e x hx
  obtain ⟨k, rfl⟩ : ∃ k : Nat, row = k := ⟨row.toNat, by omega⟩
  have hk : k < (flipd h).length := by rw [flip_len]; omega
  refine atI_nat ?_
  unfold gz
  rw [Int.toNat_natCast, List.getD_eq_getElem?_getD, List.getElem?_map, List.getElem?_eq_getElem hk]; rfl
abbrev sbead_list : Stmt := topS 34
theorem scbead_list : FnScope ["heap", "column", "height"] ["heap"] (defScope sbead_list) := ⟨rfl, rfl, rfl, by decide +kernel, rfl, by decide +kernel, by decide +kernel⟩

abbrev sis_core_in : Stmt := topS 35
theorem scis_core_in : FnScope ["k", "heap", "beads", "below", "bead"] ["k", "heap"] (defScope sis_core_in) := ⟨rfl, rfl, rfl, by decide +kernel, rfl, by decide +kernel, by decide +kernel⟩

abbrev sbounded_parts_in : Stmt := topS 36
theorem scbounded_parts_in : FnScope ["k", "core", "lengths", "found", "column", "height", "hooks", "row", "one"] ["k", "core"] (defScope sbounded_parts_in) := ⟨rfl, rfl, rfl, by decide +kernel, rfl, by decide +kernel, by decide +kernel⟩

abbrev sletters_in : Stmt := topS 37
theorem scletters_in : FnScope ["k", "core"] ["k", "core"] (defScope sletters_in) := ⟨rfl, rfl, rfl, by decide +kernel, rfl, by decide +kernel, by decide +kernel⟩

abbrev srequire_order : Stmt := topS 38
theorem screquire_order : FnScope ["k"] ["k"] (defScope srequire_order) := ⟨rfl, rfl, rfl, by decide +kernel, rfl, by decide +kernel, by decide +kernel⟩

abbrev srequire_core : Stmt := topS 39
theorem screquire_core : FnScope ["k", "core"] ["k", "core"] (defScope srequire_core) := ⟨rfl, rfl, rfl, by decide +kernel, rfl, by decide +kernel, by decide +kernel⟩

abbrev sletters_of : Stmt := topS 40
theorem scletters_of : FnScope ["k", "core"] ["k", "core"] (defScope sletters_of) := ⟨rfl, rfl, rfl, by decide +kernel, rfl, by decide +kernel, by decide +kernel⟩

section
variable {P : Program} {w : World} {K : PySem.W.Frag} {mg : Str → Option Value} {base : Heap}
theorem ok_beads (B : Bi mg) (D : Here K mg "bead_list" sbead_list ["heap"]) : Ok P w K mg base 1 "bead_list" ["heap"] spBeads := by
  refine D.ok scbead_list (fun vs H Q E h => ?_) (fun f cdv A outer s H vs Q E hr h => ?_)
  · obtain ⟨a, h, rfl, _⟩ := h; rfl
  · obtain ⟨a, h, rfl, ha, hl, q⟩ := h
    have hT : SqT K H a (h.map V.int) := .inl (.inl ha)
    refine ⟨_, (pss_one (ps_ret (pe_lc (own := [("column", 1), ("height", 2)]) rfl scbead_list.nd (pi_enumT (by rfl) B.enumerate (pa_cons (pv 0) pa_nil)) (blkOk_by (N := ["heap", "column", "height"]) (sc := defScope sbead_list) (by decide +kernel)) (fun _ _ _ _ _ => (pg_tupK (n := 2) K rfl (pgs_cons (pg_name (i := 1) scbead_list.nd rfl (by first | exact Or.inl rfl | exact Or.inr rfl)) (pgs_cons (pg_name (i := 2) scbead_list.nd rfl (by first | exact Or.inl rfl | exact Or.inr rfl)) pgs_nil)))) (fun _ _ _ _ _ => pts_nil) (fun _ _ _ _ _ => (pe_op op_sub (pe_op op_sub (pv 2) (pv 1)) pe_int))))), ?_⟩
    have w1 := walk_enumT (K := K) (a := a) (xs := h.map V.int)
    rw [List.length_map] at w1
    refine ⟨.ref a, rfl, a, _, rfl, hT, fun L nL => ?_⟩
    refine lc_ew h w1 (fun p => some (.int (p.2 - p.1 - 1))) nL (by omega) (fun H s => sm_tup s hT) (fun i x T H2 P1 P0 ec s2 hT2 k1 k0 => ?_) fun H3 s3 e3 => ?_
    · exact ⟨T, _, rfl, .inl (.inl hT2), rfl, _, _, rfl, _, _, rfl, rfl, rfl, lc_yes ⟨.int x, rfl, .int i, rfl, _, _, rfl, rfl, _, _, rfl, rfl, k1 _ _ rfl (Same.refl _)⟩⟩
    · exact q _ _ s3 (by rw [e3, fm_some, beads, List.map_map]; rfl)
theorem ok_coreIn (B : Bi mg) (D : Here K mg "is_core_in" sis_core_in ["k", "heap"]) (d_bead_list : Ok P w K mg base 1 "bead_list" ["heap"] spBeads) : Ok P w K mg base 2 "is_core_in" ["k", "heap"] spCoreIn := by
  refine D.ok scis_core_in (fun vs H Q E h => ?_) (fun f cdv A outer s H vs Q E hr h => ?_)
  · obtain ⟨k, a, h, rfl, _⟩ := h; rfl
  · obtain ⟨k, a, h, rfl, ha, hl, q⟩ := h
    have hT : SqT K H a (h.map V.int) := .inl (.inl ha)
    refine ⟨_, (pss_cons (ps_asg (pe_tup (pa_cons (pe_own d_bead_list hr (pa_cons (pv 1) pa_nil)) (pa_cons (pe_un un_neg (pe_callB (kLen K) (by rfl) B.len PySem.boot_len (pa_cons (pv 1) pa_nil))) pa_nil))) (pg_tupK (n := 2) K rfl (pgs_cons (pg_name (i := 2) scis_core_in.nd rfl (by first | exact Or.inl rfl | exact Or.inr rfl)) (pgs_cons (pg_name (i := 3) scis_core_in.nd rfl (by first | exact Or.inl rfl | exact Or.inr rfl)) pgs_nil))))
      (pss_one (ps_ret (pe_callB (kAll K rfl) (by rfl) B.all bt_all (pa_cons (pe_lc (own := [("bead", 4)]) rfl scis_core_in.nd (pi_listK K (pv 2)) (blkOk_by (N := ["k", "heap", "beads", "below", "bead"]) (sc := defScope sis_core_in) (by decide +kernel)) (fun _ _ _ _ _ => (pg_name (i := 4) scis_core_in.nd rfl (by first | exact Or.inl rfl | exact Or.inr rfl))) (fun _ _ _ _ _ => pts_nil) (fun _ _ _ _ _ => (pe_or (pe_cmpR op_lt (pe_op op_sub (pv 4) (pv 0)) (pv 3) (nomark _)) (pe_one (pe_cmpR (kInS K) (pe_op op_sub (pv 4) (pv 0)) (pv 2) (by rfl)))))) pa_nil))))), ?_⟩
    refine ⟨.ref a, rfl, a, h, rfl, ha, hl, fun H1 b s1 hb => ?_⟩
    refine ⟨.ref a, rfl, a, _, rfl, .inr (sm_tup s1 hT), _, rfl, by show 2 ≤ sizeLine; decide, fun p np => ?_⟩
    have sp := sm_new (o := .tup [V.ref b, V.int (-((h.map V.int).length : Int))]) np
    refine ⟨p, _, rfl, .inl (.inl upd_same), rfl, _, _, rfl, _, _, rfl, rfl, ?_⟩
    have hB := sp _ _ hb
    have hBL : SqL K _ b ((beads h).map V.int) := .inl (.inl hB)
    have hlen : (beads h).length ≤ 4000 := by unfold beads; rw [List.length_map, enumI_len]; omega
    refine ⟨.ref b, rfl, b, rfl, ⟨_, hBL⟩, fun L nL => ?_⟩
    refine lc_l V.int (beads h) (fun x => some (.bl (beadOk k (beads h) (-(h.length : Int)) x))) nL hlen hBL (fun i x H3 P1 P0 ec s3 k1 k0 => ?_) fun H3 s3 e3 => ?_
    · refine ⟨rfl, lc_yes ⟨.int x, rfl, .int k, rfl, _, _, rfl, rfl, .int (-((h.map V.int).length : Int)), rfl, _, _, rfl, rfl, _, rfl, ?_⟩⟩
      rw [List.length_map]
      refine ite2 (fun z => ?_) (fun z => ?_)
      · exact k1 _ _ (by unfold beadOk; rw [z, Bool.true_or]) (Same.refl _)
      · refine ⟨.int x, rfl, .int k, rfl, _, _, rfl, rfl, .ref b, rfl, b, _, rfl, .inl (s3.seq hBL), rfl, flat_ints _, ?_⟩
        rw [if_neg Bool.false_ne_true, in_ints]
        exact k1 _ _ (by unfold beadOk; rw [eq_false_of_ne_true z, Bool.false_or]) (Same.refl _)
    · refine ⟨L, _, rfl, .inl (.inl (by rw [e3, fm_some]; exact congrArg (fun z => some (HO.lst z)) (List.map_map (f := beadOk k (beads h) (-(h.length : Int))) (g := V.bl)).symm)), ?_⟩
      rw [all_id]
      exact q _ (s1.trans (sp.trans s3))
theorem ok_parts (B : Bi mg) (D : Here K mg "bounded_parts_in" sbounded_parts_in ["k", "core"]) (d_flipped_in : Ok P w K mg base 1 "flipped_in" ["heap"] spFlip) : Ok P w K mg base 2 "bounded_parts_in" ["k", "core"] spParts := by
  refine D.ok scbounded_parts_in (fun vs H Q E h => ?_) (fun f cdv A outer s H vs Q E hr h => ?_)
  · obtain ⟨k, a, h, rfl, _⟩ := h; rfl
  · obtain ⟨k, a, h, rfl, ha, hbd, q⟩ := h
    have hT : SqT K H a (h.map V.int) := .inl (.inl ha)
    refine ⟨_, (pss_cons (ps_asg (pe_tup (pa_cons (pe_own d_flipped_in hr (pa_cons (pv 1) pa_nil)) (pa_cons (pe_lst pa_nil) pa_nil))) (pg_tupK (n := 2) K rfl (pgs_cons (pg_name (i := 2) scbounded_parts_in.nd rfl (by first | exact Or.inl rfl | exact Or.inr rfl)) (pgs_cons (pg_name (i := 3) scbounded_parts_in.nd rfl (by first | exact Or.inl rfl | exact Or.inr rfl)) pgs_nil))))
      (pss_cons (ps_for PassesOwn.never rfl (pi_enumT (by rfl) B.enumerate (pa_cons (pv 1) pa_nil)) (pg_tupK (n := 2) K rfl (pgs_cons (pg_name (i := 4) scbounded_parts_in.nd rfl (by first | exact Or.inl rfl | exact Or.inr rfl)) (pgs_cons (pg_name (i := 5) scbounded_parts_in.nd rfl (by first | exact Or.inl rfl | exact Or.inr rfl)) pgs_nil)))
        (pss_cons (ps_setLc (i := 6) (own := [("row", 7)]) rfl scbounded_parts_in.nd rfl rfl (sw_true rfl rfl rfl (by decide +kernel)) (pi_range1 rfl B.range (pa_cons (pv 5) pa_nil)) (blkOk_by (N := ["k", "core", "lengths", "found", "column", "height", "hooks", "row", "one"]) (sc := defScope sbounded_parts_in) (by decide +kernel)) (fun _ _ _ _ _ => (pg_name (i := 7) scbounded_parts_in.nd rfl (by first | exact Or.inl rfl | exact Or.inr rfl))) (fun _ _ _ _ _ => pts_nil) (fun _ _ _ _ _ => (pe_op op_sub (pe_op op_sub (pe_op op_add (pe_op op_sub (pv 5) (pv 7)) (pe_ix (kIxT K) (pv 2) (pv 7) (fun _ _ => rfl))) (pv 4)) pe_int)))
      (pss_one (ps_expr (pe_bm PySem.F.plainAttrs_list PySem.F.slot_list_append PySem.F.type_list_append mt_append (pv 3) (pa_cons (pe_callB (kLen K) (by rfl) B.len PySem.boot_len (pa_cons (pe_lc (own := [("one", 8)]) rfl scbounded_parts_in.nd (pi_listK K (pv 6)) (blkOk_by (N := ["k", "core", "lengths", "found", "column", "height", "hooks", "row", "one"]) (sc := defScope sbounded_parts_in) (by decide +kernel)) (fun _ _ _ _ _ => (pg_name (i := 8) scbounded_parts_in.nd rfl (by first | exact Or.inl rfl | exact Or.inr rfl))) (fun _ _ _ _ _ => (pts_one (pt_cmpR op_lt (pv 8) (pv 0) (nomark _)))) (fun _ _ _ _ _ => (pv 8))) pa_nil)) pa_nil))))))
      (pss_one (ps_ret (pe_callTy (kTupOf K) (by rfl) B.tuple bt_tuple (pa_cons (pv 3) pa_nil)))))), ?_⟩
    refine ⟨.ref a, rfl, a, h, rfl, ha, hbd, fun H1 L s1 hL => ?_⟩
    refine ⟨Nat.zero_le _, fun F nF => ⟨by show 2 ≤ sizeLine; decide, fun p np => ?_⟩⟩
    have sF := sm_new (o := .lst []) nF
    have sp := sm_new (o := .tup [V.ref L, V.ref F]) np
    refine ⟨p, _, rfl, .inl (.inl upd_same), rfl, _, _, rfl, _, _, rfl, rfl, ?_⟩
    have nF0 : H F = none := s1.free nF
    have s2 : Same H (upd (upd H1 F (.lst [])) p (.tup [V.ref L, V.ref F])) := s1.trans (sF.trans sp)
    have hF : (upd (upd H1 F (.lst [])) p (.tup [V.ref L, V.ref F])) F = some (.lst []) := sp _ _ upd_same
    have hL2 := sp _ _ (sF _ _ hL)
    have w1 := walk_enumT (K := K) (a := a) (xs := h.map V.int)
    rw [List.length_map] at w1
    refine ⟨.ref a, rfl, a, _, rfl, sm_tup s2 hT, ?_⟩
    refine for_it w1 (fun i σ H' => Same H H' ∧ H' L = some (.tup ((flipd h).map V.int)) ∧ H' F = some (.lst ((((enumI 0 h).take i).map (partsOf k (flipd h))).map V.int)) ∧ ∃ y4 y5 y6 y7 y8, σ = [some (.int k), some (.ref a), some (.ref L), some (.ref F), y4, y5, y6, y7, y8])
      ⟨s2, hL2, hF, none, none, none, none, none, rfl⟩ (fun i σ H' _ p => sm_tup p.1 hT) (fun i x σ H2 H2' hi p y => ?_) fun σ H2 p => ?_
    · obtain ⟨s3, hL3, hF3, y4, y5, y6, y7, y8, rfl⟩ := p
      obtain ⟨T, vi, vx, rfl, nT, rfl, e1, e2⟩ := y
      have g1 : h[i]? = some h[i] := List.getElem?_eq_getElem hi
      have ei : vi = V.int (i : Nat) := (Option.some.inj e1).symm
      have ex : vx = V.int h[i] := at_map g1 e2
      subst ei; subst ex
      have sT := sm_new (o := .tup [V.int (i : Nat), V.int h[i]]) nT
      have hxm : h[i] ∈ h := List.getElem_mem hi
      have hxb := hbd.2 _ hxm
      refine ⟨T, _, rfl, .inl (.inl upd_same), rfl, _, _, rfl, _, _, rfl, rfl, ?_⟩
      refine ⟨.int h[i], rfl, h[i], rfl, by omega, by omega, fun L1 nL1 => ?_⟩
      refine lc_r (lo := 0) (n := h[i].toNat) (fun row => some (.int (h[i] - row + gz (flipd h) row - (i : Nat) - 1))) nL1 (by omega) (fun j c H4 P1 P0 ec hj s4 k1 k0 => ?_) fun H4 s4 e4 => ?_
      · have hLc : SqT K H4 L ((flipd h).map V.int) := .inl (.inl (s4 _ _ (sT _ _ hL3)))
        refine ⟨rfl, lc_yes ⟨.int h[i], rfl, .int c, rfl, _, _, rfl, rfl, .ref L, rfl, .int c, rfl, L, _, c, _, rfl, rfl, hLc, at_flip hxm (by omega) (by omega), _, _, rfl, rfl, .int (i : Nat), rfl, _, _, rfl, rfl, _, _, rfl, rfl, k1 _ _ rfl (Same.refl _)⟩⟩
      · rw [fm_some] at e4
        have hF4 := s4 _ _ (sT _ _ hF3)
        have hk : SqL K H4 L1 ((hooks (flipd h) (i : Nat) h[i]).map V.int) := .inl (.inl (by rw [e4]; unfold hooks rng; rw [List.map_map, List.map_map, List.map_map]; rfl))
        have hlen : (hooks (flipd h) (i : Nat) h[i]).length ≤ 4000 := by unfold hooks; rw [List.length_map, List.length_map, List.length_range]; omega
        refine ⟨.ref F, rfl, .inl ⟨rfl, _, .inl (.inl hF4)⟩, .ref L1, rfl, L1, rfl, ⟨_, hk⟩, fun L2 nL2 => ?_⟩
        refine lc_l V.int _ (fun z => if decide (z < k) = true then some (.int z) else none) nL2 hlen hk (fun j z H5 P1 P0 ec s5 k1 k0 => ?_) fun H5 s5 e5 => ?_
        · refine ⟨rfl, .int z, rfl, .int k, rfl, z, k, rfl, rfl, _, rfl, ite2 (fun y => ?_) (fun y => ?_)⟩
          · exact ⟨.int z, rfl, k1 _ _ (if_pos y) (Same.refl _)⟩
          · exact k0 _ (if_neg y) (Same.refl _)
        · refine ⟨L2, _, rfl, .inl (.inl (.inl e5)), F, _, _, rfl, rfl, s5 _ _ hF4, ?_, ?_⟩
          · rw [List.length_map, List.length_map, List.length_take, enumI_len, sizeLine_eq]
            have := hbd.1; omega
          · refine ⟨sm_grow (s3.trans (sT.trans (s4.trans s5))) nF0, ?_, ?_, _, _, _, _, _, rfl⟩
            · rw [upd_ne (ne_of (s5 _ _ (s4 _ _ (sT _ _ hL3))) (s5 _ _ hF4) (by intro z; cases z))]
              exact s5 _ _ (s4 _ _ (sT _ _ hL3))
            · have g2 : (enumI 0 h)[i]? = some (((i : Nat) : Int), h[i]) := by
                have hi2 : i < (enumI 0 h).length := by rw [enumI_len]; exact hi
                have z := List.getElem?_eq_getElem hi2
                obtain ⟨z1, z2⟩ := enumI_at h 0 i z
                rw [g1] at z2
                rw [z]
                exact congrArg some (Prod.ext (by rw [z1]; simp) (Option.some.inj z2).symm)
              rw [upd_same, fm_if (fun z => decide (z < k)) V.int, List.length_map, List.take_add_one, g2, List.map_append, List.map_append]; rfl
    · obtain ⟨s3, hL3, hF3, y4, y5, y6, y7, y8, rfl⟩ := p
      refine ⟨.ref F, rfl, F, _, rfl, .inl ⟨.inl (.inl hF3), fun p np => ?_⟩⟩
      refine q _ _ (s3.trans (sm_new np)) ?_
      rw [upd_same, List.take_of_length_le (by rw [enumI_len]; exact Nat.le_refl _)]; rfl
theorem ok_letters (B : Bi mg) (D : Here K mg "letters_in" sletters_in ["k", "core"]) (d_bounded_parts_in : Ok P w K mg base 2 "bounded_parts_in" ["k", "core"] spParts) : Ok P w K mg base 3 "letters_in" ["k", "core"] spLetters := by
  refine D.ok scletters_in (fun vs H Q E h => ?_) (fun f cdv A outer s H vs Q E hr h => ?_)
  · obtain ⟨k, a, h, rfl, _⟩ := h; rfl
  · obtain ⟨k, a, h, rfl, ha, hbd, q⟩ := h
    refine ⟨_, (pss_one (ps_ret (pe_callB (kSumT K rfl) (by rfl) B.sum bt_sum (pa_cons (pe_own d_bounded_parts_in hr (pa_cons (pv 0) (pa_cons (pv 1) pa_nil))) pa_nil)))), ?_⟩
    exact ⟨.int k, rfl, .ref a, rfl, k, a, h, rfl, ha, hbd, fun H1 p s1 e1 => ⟨p, _, rfl, .inl (.inl e1), q _ s1⟩⟩
theorem ok_order (C : Cn mg) (D : Here K mg "require_order" srequire_order ["k"]) (d_is_within : Ok P w K mg base 2 "is_within" ["value", "least", "most"] spWithin) : Ok P w K mg base 3 "require_order" ["k"] spOrder := by
  refine D.ok screquire_order (fun vs H Q E h => ?_) (fun f cdv A outer s H vs Q E hr h => ?_)
  · obtain ⟨k, rfl, _⟩ := h; rfl
  · obtain ⟨k, rfl, h1, h2, q⟩ := h
    refine ⟨_, (pss_one (ps_if (pt_not (pt_val (pe_own d_is_within hr (pa_cons (pv 0) (pa_cons (pe_cn C.LEAST_ORDER) (pa_cons (pe_cn C.MAX_ORDER) pa_nil)))))) (pss_one ps_never) pss_nil)), ?_⟩
    refine ⟨.int k, rfl, k, 2, 60, rfl, _, rfl, ?_⟩
    rw [decide_eq_true h1, decide_eq_true h2]
    exact iteF q
theorem ok_reqCore (D : Here K mg "require_core" srequire_core ["k", "core"]) (d_require_order : Ok P w K mg base 3 "require_order" ["k"] spOrder) (d_is_heap_in : Ok P w K mg base 3 "is_heap_in" ["value"] spHeap) (d_is_core_in : Ok P w K mg base 2 "is_core_in" ["k", "heap"] spCoreIn) :
    Ok P w K mg base 4 "require_core" ["k", "core"] spReqCore := by
  refine D.ok screquire_core (fun vs H Q E h => ?_) (fun f cdv A outer s H vs Q E hr h => ?_)
  · obtain ⟨k, a, h, rfl, _⟩ := h; rfl
  · obtain ⟨k, a, h, rfl, ha, h1, h2, ho, hcr, q⟩ := h
    have hbd := heapOk_bd ho
    refine ⟨_, (pss_cons (ps_expr (pe_own d_require_order hr (pa_cons (pv 0) pa_nil)))
      (pss_one (ps_if (PW.pt (pw_or (pt_not (pt_val (pe_own d_is_heap_in hr (pa_cons (pv 1) pa_nil)))) (pw_or1 (pt_not (pt_val (pe_own d_is_core_in hr (pa_cons (pv 0) (pa_cons (pv 1) pa_nil)))))))) (pss_one ps_never) pss_nil))), ?_⟩
    refine ⟨.int k, rfl, k, rfl, h1, h2, .ref a, rfl, a, h, rfl, ha, ho, fun H1 s1 => ⟨true, rfl, iteF ?_⟩⟩
    refine ⟨.int k, rfl, .ref a, rfl, k, a, h, rfl, s1 _ _ ha, hbd.1, fun H2 s2 => ⟨_, rfl, ?_⟩⟩
    rw [hcr]
    exact iteF (q _ (s1.trans s2))
theorem ok_lettersOf (D : Here K mg "letters_of" sletters_of ["k", "core"]) (d_require_core : Ok P w K mg base 4 "require_core" ["k", "core"] spReqCore) (d_letters_in : Ok P w K mg base 3 "letters_in" ["k", "core"] spLetters) : Ok P w K mg base 5 "letters_of" ["k", "core"] spLettersOf := by
  refine D.ok scletters_of (fun vs H Q E h => ?_) (fun f cdv A outer s H vs Q E hr h => ?_)
  · obtain ⟨k, a, h, rfl, _⟩ := h; rfl
  · obtain ⟨k, a, h, rfl, ha, h1, h2, ho, hcr, q⟩ := h
    refine ⟨_, (pss_cons (ps_expr (pe_own d_require_core hr (pa_cons (pv 0) (pa_cons (pv 1) pa_nil))))
      (pss_one (ps_ret (pe_own d_letters_in hr (pa_cons (pv 0) (pa_cons (pv 1) pa_nil)))))), ?_⟩
    exact ⟨.int k, rfl, .ref a, rfl, k, a, h, rfl, ha, h1, h2, ho, hcr, fun H1 s1 => ⟨.int k, rfl, .ref a, rfl, k, a, h, rfl, s1 _ _ ha, heapOk_bd ho, fun H2 s2 => q _ (s1.trans s2)⟩⟩
end
end L2.Q67
namespace L2.Q67
open PySem PySem.Spec PyProof.Rows R67
/-! ### cores as data -/
def coreD (c : Hg) : PyData := .tuple (c.map PyData.int)
theorem lay_ints : ∀ c : Hg, PyData.canLayAll0 (c.map PyData.int) = true
  | [] => by rw [List.map_nil, PyData.canLayAll0]
  | x :: r => by rw [List.map_cons, PyData.canLayAll0, lay_ints r, PyData.canLay0]; rfl
theorem lay_core (c : Hg) : PyData.canLay0 (coreD c) = true := by unfold coreD; rw [PyData.canLay0, lay_ints]
theorem lay_cores : ∀ cs : List Hg, PyData.canLayAll0 (cs.map coreD) = true
  | [] => by rw [List.map_nil, PyData.canLayAll0]
  | x :: r => by rw [List.map_cons, PyData.canLayAll0, lay_cores r, lay_core]; rfl
theorem dep_ints : ∀ c : Hg, PyData.depthAll (c.map PyData.int) = 0
  | [] => by rw [List.map_nil, PyData.depthAll]
  | x :: r => by rw [List.map_cons, PyData.depthAll, dep_ints r, PyData.depth]; rfl
theorem dep_core (c : Hg) : PyData.depth (coreD c) = 1 := by unfold coreD; rw [PyData.depth, dep_ints]
theorem dep_cores : ∀ cs : List Hg, PyData.depthAll (cs.map coreD) ≤ 1
  | [] => by rw [List.map_nil, PyData.depthAll]; omega
  | x :: r => by rw [List.map_cons, PyData.depthAll, dep_core]; have := dep_cores r; omega
theorem shp_core (c : Hg) : SeqAt.shaped (coreD c) = true := by
  unfold SeqAt.shaped; rw [lay_core, dep_core]; rfl
theorem shp_list (cs : List Hg) : SeqAt.shaped (.list (cs.map coreD)) = true := by
  unfold SeqAt.shaped; rw [PyData.canLay0, lay_cores, PyData.depth, decide_eq_true (by have := dep_cores cs; omega)]; rfl
theorem shp_tup (cs : List Hg) : SeqAt.shaped (.tuple (cs.map coreD)) = true := by
  unfold SeqAt.shaped; rw [PyData.canLay0, lay_cores, PyData.depth, decide_eq_true (by have := dep_cores cs; omega)]; rfl
theorem eqv_ints : ∀ c d : Hg, PyData.eqvAll (c.map PyData.int) (d.map PyData.int) = decide (c = d)
  | [], [] => by rw [List.map_nil, PyData.eqvAll]; rfl
  | [], _ :: _ => by rw [List.map_nil, List.map_cons, PyData.eqvAll]; rfl
  | _ :: _, [] => by rw [List.map_nil, List.map_cons, PyData.eqvAll]; rfl
  | x :: c, y :: d => by
    rw [List.map_cons, List.map_cons, PyData.eqvAll, eqv_ints c d, PyData.eqv]
    by_cases e : x = y
    · by_cases e2 : c = d
      · rw [e, e2, beq_self_eq_true, decide_eq_true rfl, decide_eq_true rfl]; rfl
      · rw [decide_eq_false e2, decide_eq_false (fun z => e2 (List.cons.inj z).2), Bool.and_false]
    · rw [beq_eq_false_iff_ne.mpr e, decide_eq_false (fun z => e (List.cons.inj z).1), Bool.false_and]
theorem eqv_core (c d : Hg) : PyData.eqv (coreD c) (coreD d) = decide (c = d) := by unfold coreD; rw [PyData.eqv, eqv_ints]
theorem eqv_cores : ∀ c d : List Hg, PyData.eqvAll (c.map coreD) (d.map coreD) = decide (c = d)
  | [], [] => by rw [List.map_nil, PyData.eqvAll]; rfl
  | [], _ :: _ => by rw [List.map_nil, List.map_cons, PyData.eqvAll]; rfl
  | _ :: _, [] => by rw [List.map_nil, List.map_cons, PyData.eqvAll]; rfl
  | x :: c, y :: d => by
    rw [List.map_cons, List.map_cons, PyData.eqvAll, eqv_cores c d, eqv_core]
    by_cases e : x = y
    · by_cases e2 : c = d
      · rw [e, e2, decide_eq_true rfl, decide_eq_true rfl, decide_eq_true rfl]; rfl
      · rw [decide_eq_false e2, decide_eq_false (fun z => e2 (List.cons.inj z).2), Bool.and_false]
    · rw [decide_eq_false e, decide_eq_false (fun z => e (List.cons.inj z).1), Bool.false_and]
theorem dp_ints {K : PySem.W.Frag} {H : Hp} : ∀ c : Hg, DpAll K H (c.map V.int) (c.map PyData.int)
  | [] => .nil
  | x :: r => .cons (.int x) (dp_ints r)
theorem dp_core {K : PySem.W.Frag} {H : Hp} {x : V} {c : Hg} (h : TupH H x c) : Dp K H x (coreD c) := by
  obtain ⟨t, rfl, ht⟩ := h
  exact .tup (.inl (.inl ht)) (dp_ints c)
theorem dp_cores {K : PySem.W.Frag} {H : Hp} : ∀ {xs : List V} {cs : List Hg}, Cores H xs cs → DpAll K H xs (cs.map coreD)
  | _, _, .nil => .nil
  | _, _, .cons h t => .cons (dp_core h) (dp_cores t)
theorem Cores.at {H : Hp} : ∀ {xs : List V} {cs : List Hg} {i : Nat} {x : V}, Cores H xs cs → xs[i]? = some x → ∃ c, cs[i]? = some c ∧ TupH H x c
  | _, _, _, _, .nil, e => by simp at e
  | _, _, 0, _, .cons h _, e => by cases (Option.some.inj e); exact ⟨_, rfl, h⟩
  | _, _, i + 1, x, .cons _ t, e => by
    obtain ⟨c, h1, h2⟩ := Cores.at (i := i) (x := x) t (by simpa using e)
    exact ⟨c, by simpa using h1, h2⟩
theorem Cores.snoc {H : Hp} {xs : List V} {cs : List Hg} {x : V} {c : Hg} (h : Cores H xs cs) (hx : TupH H x c) : Cores H (xs ++ [x]) (cs ++ [c]) := paired_snoc h hx
/-- the tuples stand, whatever becomes of a list or a dict -/
theorem Cores.up {H : Hp} {xs : List V} {cs : List Hg} {a : Addr} {o o' : HO} (h : Cores H xs cs) (ha : H a = some o) (hn : ∀ ys, o ≠ .tup ys) : Cores (upd H a o') xs cs := by
  refine paired_mono (fun x c q => ?_) h
  obtain ⟨t, e, ht⟩ := q
  exact ⟨t, e, by rw [upd_ne (ne_of ht ha (fun z => hn _ z.symm))]; exact ht⟩
/-! ### the rounds -/
def cGood (st : List Hg × List Hg) : Bool := decide (st.1.length ≤ 60) && decide (st.2.length ≤ 60) && (st.2.all fun h => decide (h.length ≤ 30) && h.all fun x => decide (0 ≤ x) && decide (x ≤ 60))
structure BoxOk (k : Int) (goal : Hg) : Prop where
  pos : 0 < k
  good : ∀ j, j ≤ 8 → cGood (cRun k goal j) = true
  stop : (cRun k goal 8).2 = []
theorem cGood_bd {st : List Hg × List Hg} (g : cGood st = true) {h : Hg} (hm : h ∈ st.2) : h.length ≤ 30 ∧ Bd h := by
  unfold cGood at g
  simp only [Bool.and_eq_true] at g
  have z := List.all_eq_true.mp g.2 h hm
  rw [Bool.and_eq_true] at z
  have hl : h.length ≤ 30 := of_decide_eq_true z.1
  refine ⟨hl, by omega, fun x hx => ?_⟩
  have y := List.all_eq_true.mp z.2 x hx
  rw [Bool.and_eq_true] at y
  have a := of_decide_eq_true y.1
  have b := of_decide_eq_true y.2
  omega
theorem cGood_len {st : List Hg × List Hg} (g : cGood st = true) : st.1.length ≤ 60 ∧ st.2.length ≤ 60 := by
  unfold cGood at g
  simp only [Bool.and_eq_true] at g
  exact ⟨of_decide_eq_true g.1.1, of_decide_eq_true g.1.2⟩
theorem cRun_stop {k : Int} {goal : Hg} {j : Nat} (h : (cRun k goal j).2 = []) : ∀ n, (cRun k goal (j + n)).1 = (cRun k goal j).1 ∧ (cRun k goal (j + n)).2 = []
  | 0 => ⟨rfl, h⟩
  | n + 1 => by
    obtain ⟨h1, h2⟩ := cRun_stop h n
    have e : cRun k goal (j + (n + 1)) = cRound k goal (cRun k goal (j + n)) := rfl
    rw [e]
    unfold cRound
    rw [h2]
    exact ⟨h1, rfl⟩
theorem put_len (l : List Hg) (x : Hg) : (put l x).length ≤ l.length + 1 := by
  unfold put
  split
  · omega
  · rw [List.length_append]; exact Nat.le_refl _
/-- the dict's keys behind a store -/
theorem put_keys {kvs : List (List Key × V)} {l : List Hg} {x : Hg} {v : V} (h : kvs.map (·.1) = l.map ck) : (putK kvs (ck x) v).map (·.1) = (put l x).map ck := by
  have e : (kvs.any fun kv => decide (kv.1 = ck x)) = l.contains x := by
    have e1 : (kvs.any fun kv => decide (kv.1 = ck x)) = (kvs.map (·.1)).any fun q => decide (q = ck x) := by rw [List.any_map]; rfl
    rw [e1, h, List.any_map, List.contains_eq_any_beq]
    congr 1
    funext y
    by_cases z : y = x
    · rw [z]; simp
    · have z' : ¬ ck y = ck x := fun q => z (ck_inj q)
      show decide (ck y = ck x) = (x == y)
      rw [decide_eq_false z', beq_eq_false_iff_ne.mpr (Ne.symm z)]
  unfold putK put
  rw [e]
  cases l.contains x with
  | true =>
    rw [if_pos rfl, if_pos rfl, ← h, List.map_map]
    refine List.map_congr_left fun p _ => ?_
    show (if p.1 = ck x then (p.1, v) else p).1 = p.1
    split <;> rfl
  | false =>
    rw [if_neg Bool.false_ne_true, if_neg Bool.false_ne_true, List.map_append, List.map_append, h]; rfl
theorem addTo_len (k : Int) (core : Hg) : ∀ (ds : List Int) (l : List Hg), (ds.foldl (fun l d => put l (grown core k 1 (d % k))) l).length ≤ l.length + ds.length
  | [], l => Nat.le_refl _
  | d :: ds, l => by
    rw [List.foldl_cons, List.length_cons]
    have := addTo_len k core ds (put l (grown core k 1 (d % k)))
    have := put_len l (grown core k 1 (d % k))
    omega
theorem canAdd_len (h : Hg) : (canAdd h).length ≤ h.length + 1 := by
  unfold canAdd
  rw [(isort_perm _).length_eq, List.length_map]
  exact add_len h
theorem cStep_len {k : Int} {goal : Hg} (st : List Hg × List Hg) {core : Hg} (h : core.length ≤ 30) : (cStep k goal st core).1.length ≤ st.1.length + 1 ∧ (cStep k goal st core).2.length ≤ st.2.length + 31 := by
  unfold cStep
  split
  · exact ⟨by simp, by simp⟩
  · split
    · have := addTo_len k core (canAdd core) st.2
      have := canAdd_len core
      exact ⟨by simp, by show ((canAdd core).foldl (fun l d => put l (grown core k 1 (d % k))) st.2).length ≤ _; omega⟩
    · exact ⟨by omega, by omega⟩
theorem cFold_len {k : Int} {goal : Hg} : ∀ (cs : List Hg) (st : List Hg × List Hg), (∀ c ∈ cs, c.length ≤ 30) → (cs.foldl (cStep k goal) st).1.length ≤ st.1.length + cs.length ∧ (cs.foldl (cStep k goal) st).2.length ≤ st.2.length + 31 * cs.length
  | [], st, _ => ⟨by simp, by simp⟩
  | c :: cs, st, h => by
    rw [List.foldl_cons, List.length_cons]
    have a := cFold_len (k := k) (goal := goal) cs (cStep k goal st c) fun d hd => h d (List.mem_cons_of_mem _ hd)
    have b := cStep_len (k := k) (goal := goal) st (h c List.mem_cons_self)
    omega
end L2.Q67
namespace L2.Q67
open PySem PySem.Spec PyProof.Rows R67
def spThat : Sp := fun vs H Q _ => ∃ (k : Int) (g : Addr) (goal : Hg), vs = [.int k, .ref g] ∧ H g = some (.tup (goal.map V.int)) ∧ BoxOk k goal ∧ ∀ H' p xs, Same H H' → H' p = some (.lst xs) → Cores H' xs (found k goal) → Q (.ref p) H'
abbrev scores_that_hold : Stmt := topS 44
theorem sccores_that_hold : FnScope ["k", "goal", "found", "here", "longer", "core", "diagonal"] ["k", "goal"] (defScope scores_that_hold) := ⟨rfl, rfl, rfl, by decide +kernel, rfl, by decide +kernel, by decide +kernel⟩

theorem slot_eq {a b : Option (Option V)} (h : a = b) : a = b := h
section
variable {P : Program} {w : World} {K : PySem.W.Frag} {mg : Str → Option Value} {base : Heap}
/-- between two rounds -/
def wRound (H : Hp) (k : Int) (g : Addr) (goal : Hg) (F : Addr) : Nat → St → Hp → Prop := fun m σ H' => ∃ j, j + m = 8 ∧ Same H H' ∧ ∃ (L : Addr) (fx hx : List V) (y4 y5 y6 : Option V), σ = [some (.int k), some (.ref g), some (.ref F), some (.ref L), y4, y5, y6] ∧ F ≠ L ∧
  H' F = some (.lst fx) ∧ Cores H' fx (cRun k goal j).1 ∧ H' L = some (.lst hx) ∧ Cores H' hx (cRun k goal j).2
/-- within a round, behind i cores -/
def wCore (H : Hp) (k : Int) (g : Addr) (goal : Hg) (F L M : Addr) (hx : List V) (j : Nat) : Nat → St → Hp → Prop := fun i σ H' => Same H H' ∧ ∃ (fx : List V) (kvs : List (List Key × V)) (y5 y6 : Option V), σ = [some (.int k), some (.ref g), some (.ref F), some (.ref L), some (.ref M), y5, y6] ∧
  H' F = some (.lst fx) ∧ Cores H' fx (((cRun k goal j).2.take i).foldl (cStep k goal) ((cRun k goal j).1, [])).1 ∧ H' L = some (.lst hx) ∧ Cores H' hx (cRun k goal j).2 ∧
  H' M = some (.dT kvs) ∧ kvs.map (·.1) = ((((cRun k goal j).2.take i).foldl (cStep k goal) ((cRun k goal j).1, [])).2).map ck
theorem ok_that (B : Bi mg) (D : Here K mg "cores_that_hold" scores_that_hold ["k", "goal"]) (d_holds_in : Ok P w K mg base 1 "holds_in" ["heap", "other"] spHolds) (d_letters_in : Ok P w K mg base 3 "letters_in" ["k", "core"] spLetters)
    (d_can_add_in : Ok P w K mg base 2 "can_add_in" ["heap"] spCan) (d_with_letter_in : Ok P w K mg base 3 "with_letter_in" ["k", "core", "letter"] spWith) : Ok P w K mg base 4 "cores_that_hold" ["k", "goal"] spThat := by
  refine D.ok sccores_that_hold (fun vs H Q E h => ?_) (fun f cdv A outer s H vs Q E hr h => ?_)
  · obtain ⟨k, g, goal, rfl, _⟩ := h; rfl
  · obtain ⟨k, g, goal, rfl, hg, bo, q⟩ := h
    refine ⟨_, (pss_cons (ps_par (i := 2) (j := 3) rfl sccores_that_hold.nd rfl rfl (by decide) rfl rfl (pa_cons (pe_lst pa_nil) (pa_cons (pe_lst (pa_cons (pe_tup pa_nil) pa_nil)) pa_nil)) (by rfl))
      (pss_cons (ps_while PassesOwn.never (pt_cmpR (kNeD K hr.units) (pv 3) (pe_lst pa_nil) (nomark _))
        (pss_cons (ps_set (i := 4) sccores_that_hold.nd rfl (.inl rfl) pe_dnewT)
      (pss_cons (ps_for PassesOwn.never rfl (pi_listK K (pv 3)) (pg_name (i := 5) sccores_that_hold.nd rfl (by first | exact Or.inl rfl | exact Or.inr rfl))
        (pss_one (ps_if (pt_val (pe_own d_holds_in hr (pa_cons (pv 5) (pa_cons (pv 1) pa_nil)))) (pss_one (ps_expr (pe_bm PySem.F.plainAttrs_list PySem.F.slot_list_append PySem.F.type_list_append mt_append (pv 2) (pa_cons (pv 5) pa_nil)))) (pss_one (ps_if (pt_cmpR op_lt (pe_own d_letters_in hr (pa_cons (pv 0) (pa_cons (pv 5) pa_nil))) (pe_callB (kSumT K rfl) (by rfl) B.sum bt_sum (pa_cons (pv 1) pa_nil)) (nomark _)) (pss_one (ps_for PassesOwn.never rfl (pi_listK K (pe_own d_can_add_in hr (pa_cons (pv 5) pa_nil))) (pg_name (i := 6) sccores_that_hold.nd rfl (by first | exact Or.inl rfl | exact Or.inr rfl))
        (pss_one (ps_dput (hu_of hr) (pv 4) (pe_own d_with_letter_in hr (pa_cons (pv 0) (pa_cons (pv 5) (pa_cons (pe_op op_mod (pv 6) (pv 0)) pa_nil)))) pe_bl rfl)))) pss_nil)))))
      (pss_one (ps_set (i := 3) sccores_that_hold.nd rfl (.inl rfl) (pe_callTy (call_list_dT rfl) (by rfl) B.list bt_list (pa_cons (pv 4) pa_nil)))))))
      (pss_one (ps_ret (pv 2))))), ?_⟩
    refine ⟨Nat.zero_le _, fun F nF => ⟨Nat.zero_le _, fun t0 nt0 => ⟨by show 1 ≤ sizeLine; decide, fun L nL => ⟨_, _, rfl, ?_⟩⟩⟩⟩
    have s0 : Same H (upd (upd (upd H F (.lst [])) t0 (.tup [])) L (.lst [V.ref t0])) := (sm_new nF).trans ((sm_new nt0).trans (sm_new nL))
    have hF : (upd (upd (upd H F (.lst [])) t0 (.tup [])) L (.lst [V.ref t0])) F = some (.lst []) := (sm_new nL) _ _ ((sm_new nt0) _ _ upd_same)
    have hFL : F ≠ L := ne_of_none ((sm_new nt0) _ _ upd_same) nL
    have ht0 : (upd (upd (upd H F (.lst [])) t0 (.tup [])) L (.lst [V.ref t0])) t0 = some (.tup []) := (sm_new nL) _ _ upd_same
    refine ⟨wRound H k g goal F, ⟨8, 0, rfl, s0, L, [], [V.ref t0], none, none, none, rfl, hFL, hF, .nil, upd_same, .cons ⟨t0, rfl, ht0⟩ .nil⟩, fun m σ H1 hW => ?_⟩
    obtain ⟨j, hj, s1, L, fx, hx, y4, y5, y6, rfl, hFL, hF, cF, hL, cL⟩ := hW
    have gj := bo.good j (by omega)
    refine ⟨.ref L, rfl, Nat.zero_le _, fun E nE => ?_⟩
    have sE := sm_new (o := .lst []) nE
    have cL' := Cores.same cL sE
    have cF' := Cores.same cF sE
    refine ⟨.list ((cRun k goal j).2.map coreD), .list [], .lst (.inl (.inl (sE _ _ hL))) (dp_cores cL'), .lst (.inl (.inl upd_same)) .nil, shp_list _, shp_list [], _, rfl, ?_⟩
    have ee : PyData.eqv (.list ((cRun k goal j).2.map coreD)) (.list []) = decide ((cRun k goal j).2 = []) := by rw [PyData.eqv]; exact eqv_cores _ []
    rw [ee]
    refine ite2 (fun c => ?_) (fun c => ?_)
    · -- a round
      have hne : ¬ (cRun k goal j).2 = [] := by simpa using c
      have hj7 : j + 1 ≤ 8 := by
        by_cases e : j = 8
        · rw [e] at hne; exact absurd bo.stop hne
        · omega
      obtain ⟨g1, g2⟩ := cGood_len gj
      refine ⟨wRound H k g goal F (m - 1), fun σ' H' w' => ⟨m - 1, by omega, w'⟩, fun M nM => ?_⟩
      have sM := sm_new (o := .dT []) nM
      refine ⟨.ref L, rfl, L, rfl, ⟨_, .inl (.inl (sM _ _ (sE _ _ hL)))⟩, ?_⟩
      refine for_it (walk_list (K := K) (a := L) (xs := hx)) (wCore H k g goal F L M hx j) ⟨s1.trans (sE.trans sM), fx, [], y5, y6, rfl, sM _ _ (sE _ _ hF), Cores.same cF' sM, sM _ _ (sE _ _ hL), Cores.same cL' sM, upd_same, rfl⟩
        (fun i σ H' _ p => by obtain ⟨_, _, _, _, _, _, _, _, z, _⟩ := p; exact .inl (.inl z)) (fun i x σ H0 H2 hi p y => ?_) fun σ H2 p => ?_
      · obtain ⟨s2, fx2, kvs, z5, z6, rfl, hF2, cF2, hL2, cL2, hM2, hk2⟩ := p
        obtain ⟨rfl, hxi⟩ := y
        obtain ⟨core, hci, t, rfl, ht⟩ := Cores.at cL2 hxi
        have hcm := mem_at hci
        obtain ⟨b1, b2⟩ := cGood_bd gj hcm
        have et : (cRun k goal j).2.take (i + 1) = (cRun k goal j).2.take i ++ [core] := by rw [List.take_add_one, hci]; rfl
        have fl := cFold_len (k := k) (goal := goal) ((cRun k goal j).2.take i) ((cRun k goal j).1, []) fun d hd => (cGood_bd gj (List.mem_of_mem_take hd)).1
        have tl : ((cRun k goal j).2.take i).length ≤ 60 := by rw [List.length_take]; omega
        generalize hst : ((cRun k goal j).2.take i).foldl (cStep k goal) ((cRun k goal j).1, []) = st at cF2 hk2 fl
        have ef : ((cRun k goal j).2.take (i + 1)).foldl (cStep k goal) ((cRun k goal j).1, []) = cStep k goal st core := by rw [et, List.foldl_append, hst]; rfl
        refine ⟨.ref t, rfl, .ref g, rfl, t, g, core, goal, rfl, ht, s2 _ _ hg, by omega, fun H3 s3 => ⟨_, rfl, ?_⟩⟩
        refine ite2 (fun c1 => ?_) (fun c1 => ?_)
        · -- found.append(core)
          have es : cStep k goal st core = (st.1 ++ [core], st.2) := by unfold cStep; rw [if_pos c1]
          refine ⟨.ref F, rfl, .inl ⟨rfl, _, .inl (.inl (s3 _ _ hF2))⟩, .ref t, rfl, F, fx2, .ref t, rfl, rfl, s3 _ _ hF2, ?_, ?_⟩
          · have := Cores.len cF2
            rw [sizeLine_eq]; simp only [List.length_nil] at fl; omega
          · have nF0 : H F = none := nF
            have hF3 := s3 _ _ hF2
            have up : ∀ {xs : List V} {cs : List Hg}, Cores H2 xs cs → Cores (upd H3 F (.lst (fx2 ++ [V.ref t]))) xs cs := fun c => Cores.up (Cores.same c s3) hF3 (fun ys z => by cases z)
            refine ⟨sm_grow (s2.trans s3) nF0, fx2 ++ [V.ref t], kvs, _, _, rfl, upd_same, ?_, ?_, up cL2, ?_, ?_⟩
            · rw [ef, es]
              exact Cores.snoc (up cF2) ⟨t, rfl, by rw [upd_ne (ne_of (s3 _ _ ht) hF3 (by intro z; cases z))]; exact s3 _ _ ht⟩
            · rw [upd_ne (Ne.symm hFL)]; exact s3 _ _ hL2
            · rw [upd_ne (ne_of (s3 _ _ hM2) hF3 (by intro z; cases z))]; exact s3 _ _ hM2
            · rw [ef, es]; exact hk2
        · refine ⟨.int k, rfl, .ref t, rfl, k, t, core, rfl, s3 _ _ ht, b2, fun H4 s4 => ?_⟩
          refine ⟨.ref g, rfl, g, goal, rfl, .inl (.inl (s4 _ _ (s3 _ _ (s2 _ _ hg)))), _, _, rfl, rfl, _, rfl, ite2 (fun c2 => ?_) (fun c2 => ?_)⟩
          · -- the further cores
            have c2' : letters k core < goal.sum := of_decide_eq_true c2
            have es : cStep k goal st core = (st.1, (canAdd core).foldl (fun l d => put l (grown core k 1 (d % k))) st.2) := by unfold cStep; rw [if_neg c1, if_pos c2']
            refine ⟨.ref t, rfl, t, core, rfl, s4 _ _ (s3 _ _ ht), by omega, fun H5 A5 s5 e5 => ⟨A5, rfl, ⟨_, .inl (.inl e5)⟩, ?_⟩⟩
            have s35 : Same H2 H5 := s3.trans (s4.trans s5)
            have al := addTo_len k core
            have cal := canAdd_len core
            have w1 := walk_list (K := K) (a := A5) (xs := (canAdd core).map V.int)
            rw [List.length_map] at w1
            refine for_it w1 (fun n σ H' => Same H H' ∧ ∃ (kvs : List (List Key × V)) (y6 : Option V), σ = [some (.int k), some (.ref g), some (.ref F), some (.ref L), some (.ref M), some (.ref t), y6] ∧ H' F = some (.lst fx2) ∧ Cores H' fx2 st.1 ∧ H' L = some (.lst hx) ∧ Cores H' hx (cRun k goal j).2 ∧ H' A5 = some (.lst ((canAdd core).map V.int)) ∧ H' t = some (.tup (core.map V.int)) ∧
                H' M = some (.dT kvs) ∧ kvs.map (·.1) = (((canAdd core).take n).foldl (fun l d => put l (grown core k 1 (d % k))) st.2).map ck)
              ⟨s2.trans s35, kvs, z6, rfl, s35 _ _ hF2, Cores.same cF2 s35, s35 _ _ hL2, Cores.same cL2 s35, e5, s35 _ _ ht, s35 _ _ hM2, hk2⟩
              (fun n σ H' _ p => by obtain ⟨_, _, _, _, _, _, _, _, z, _⟩ := p; exact .inl (.inl z)) (fun n x σ H0 H6 hn p y => ?_) fun σ H6 p => ?_
            · obtain ⟨s6, kvs6, z6, rfl, hF6, cF6, hL6, cL6, hA6, ht6, hM6, hk6⟩ := p
              obtain ⟨rfl, hxn⟩ := y
              have gn : (canAdd core)[n]? = some (canAdd core)[n] := List.getElem?_eq_getElem hn
              rw [at_map gn hxn]
              refine ⟨.ref M, rfl, .int k, rfl, .ref t, rfl, .int (canAdd core)[n], rfl, .int k, rfl, _, _, rfl, rfl, bo.pos, k, _, t, core, rfl, ht6, bo.pos, by omega, fun H7 p s7 e7 => ?_⟩
              have hM7 := s7 _ _ hM6
              have nM0 : H M = none := by
                cases e : H M with
                | none => rfl
                | some o => exact absurd (sE _ _ (s1 _ _ e)) (by rw [nM]; intro z; cases z)
              refine ⟨M, _, rfl, DPut.t hM7 (by rw [ck_kV]; exact e7) ?_, ?_⟩
              · have e8 := congrArg List.length hk6
                rw [List.length_map, List.length_map] at e8
                have := al ((canAdd core).take n) st.2
                rw [List.length_take] at this
                rw [sizeLine_eq]; simp only [List.length_nil] at fl; omega
              · have up : ∀ {xs : List V} {cs : List Hg} {o : HO}, Cores H6 xs cs → Cores (upd H7 M o) xs cs := fun c => Cores.up (Cores.same c s7) hM7 (fun ys z => by cases z)
                have ne : ∀ {a : Addr} {o o' : HO}, H6 a = some o → (∀ kv, o ≠ .dT kv) → (upd H7 M o') a = some o := fun h z => by rw [upd_ne (ne_of (s7 _ _ h) hM7 (z _))]; exact s7 _ _ h
                refine ⟨sm_grow (s6.trans s7) nM0, _, _, rfl, ne hF6 (fun _ z => by cases z), up cF6, ne hL6 (fun _ z => by cases z), up cL6, ne hA6 (fun _ z => by cases z), ne ht6 (fun _ z => by cases z), upd_same, ?_⟩
                rw [List.take_add_one, gn]
                show _ = List.map ck (List.foldl _ _ (_ ++ [_]))
                rw [List.foldl_append]
                exact put_keys hk6
            · obtain ⟨s6, kvs6, z6, rfl, hF6, cF6, hL6, cL6, hA6, ht6, hM6, hk6⟩ := p
              refine ⟨s6, fx2, kvs6, _, _, rfl, hF6, ?_, hL6, cL6, hM6, ?_⟩
              · rw [ef, es]; exact cF6
              · rw [ef, es, hk6, List.take_of_length_le (Nat.le_refl _)]
          · have es : cStep k goal st core = st := by unfold cStep; rw [if_neg c1, if_neg (fun z => c2 (decide_eq_true z))]
            have s34 := s3.trans s4
            exact ⟨s2.trans s34, fx2, kvs, _, _, rfl, s34 _ _ hF2, by rw [ef, es]; exact Cores.same cF2 s34, s34 _ _ hL2, Cores.same cL2 s34, s34 _ _ hM2, by rw [ef, es]; exact hk2⟩
      · -- here = list(longer)
        obtain ⟨s2, fx2, kvs, z5, z6, rfl, hF2, cF2, hL2, cL2, hM2, hk2⟩ := p
        have hl : hx.length = (cRun k goal j).2.length := Cores.len cL2
        rw [hl, List.take_length] at cF2 hk2
        refine ⟨.ref M, rfl, M, kvs, rfl, .inl hM2, fun p bs np ik => ?_⟩
        have sp := sm_new (o := .lst (bs.map V.ref)) np
        refine ⟨j + 1, by omega, s2.trans sp, p, fx2, bs.map V.ref, _, _, _, rfl, ne_of_none hF2 np, sp _ _ hF2, Cores.same cF2 sp, upd_same, Cores.same (keys_cores ik hk2) sp⟩
    · -- the end
      have he : (cRun k goal j).2 = [] := by simpa using c
      obtain ⟨n, hn⟩ : ∃ n, 9 = j + n := ⟨9 - j, by omega⟩
      have e9 : found k goal = (cRun k goal j).1 := by unfold found; rw [hn]; exact (cRun_stop he n).1
      refine ⟨.ref F, rfl, q _ _ fx (s1.trans sE) (sE _ _ hF) ?_⟩
      rw [e9]; exact cF'
end
end L2.Q67
namespace L2.Q67
open PySem PySem.Spec PyProof.Rows R67
theorem minI_mem : ∀ (h : Hg), h ≠ [] → minI h ∈ h ∧ ∀ y ∈ h, minI h ≤ y
  | [], e => absurd rfl e
  | x :: r, _ => by
    have key : ∀ (r : Hg) (a : Int), (r.foldl (fun a b => if b < a then b else a) a = a ∨ r.foldl (fun a b => if b < a then b else a) a ∈ r) ∧ r.foldl (fun a b => if b < a then b else a) a ≤ a ∧ ∀ y ∈ r, r.foldl (fun a b => if b < a then b else a) a ≤ y := by
      intro r
      induction r with
      | nil => intro a; exact ⟨.inl rfl, Int.le_refl _, fun y hy => by cases hy⟩
      | cons b r ih =>
        intro a
        rw [List.foldl_cons]
        obtain ⟨h1, h2, h3⟩ := ih (if b < a then b else a)
        have hb : (if b < a then b else a) ≤ b ∧ (if b < a then b else a) ≤ a ∧ ((if b < a then b else a) = a ∨ (if b < a then b else a) = b) := by split <;> omega
        refine ⟨?_, Int.le_trans h2 hb.2.1, fun y hy => ?_⟩
        · rcases h1 with e | e
          · rcases hb.2.2 with e2 | e2
            · exact .inl (e.trans e2)
            · exact .inr (by rw [e, e2]; exact List.mem_cons_self)
          · exact .inr (List.mem_cons_of_mem _ e)
        · rcases List.mem_cons.mp hy with e | hy
          · rw [e]; exact Int.le_trans h2 hb.1
          · exact h3 y hy
    obtain ⟨h1, h2, h3⟩ := key r x
    refine ⟨?_, fun y hy => ?_⟩
    · show r.foldl _ x ∈ x :: r
      rcases h1 with e | e
      · rw [e]; exact List.mem_cons_self
      · exact List.mem_cons_of_mem _ e
    · rcases List.mem_cons.mp hy with e | hy
      · rw [e]; exact h2
      · exact h3 y hy
theorem minI_is {h : Hg} {m : Int} (a : m ∈ h) (b : ∀ y, y ∈ h → m ≤ y) : m = minI h := by
  have ne : h ≠ [] := fun e => by rw [e] at a; cases a
  obtain ⟨c, d⟩ := minI_mem h ne
  exact Int.le_antisymm (b _ c) (d _ a)
structure FoundOk (k : Int) (goal : Hg) : Prop where
  box : BoxOk k goal
  fine : ∀ d ∈ found k goal, d ≠ [] ∧ d.length ≤ 30
theorem found_len {k : Int} {goal : Hg} (b : BoxOk k goal) : (found k goal).length ≤ 60 := by
  have e : found k goal = (cRun k goal 8).1 := (cRun_stop b.stop 1).1
  rw [e]; exact (cGood_len (b.good 8 (Nat.le_refl _))).1
def spLeastIn : Sp := fun vs H Q _ => ∃ (k : Int) (g : Addr) (goal : Hg), vs = [.int k, .ref g] ∧ H g = some (.tup (goal.map V.int)) ∧ FoundOk k goal ∧ ∀ H' p ys, Same H H' → H' p = some (.tup ys) → Cores H' ys (least k goal) → Q (.ref p) H'
def spSides : Sp := fun vs H Q _ => ∃ (c r : Int), vs = [.int c, .int r] ∧ 1 ≤ c ∧ c ≤ 16 ∧ 1 ≤ r ∧ r ≤ 16 ∧ c * r ≤ 16 ∧ ∀ H', Same H H' → Q .non H'
/-- a drawn box -/
structure Drawn (k c r : Int) : Prop where
  k2 : 2 ≤ k
  k6 : k ≤ 60
  c1 : 1 ≤ c
  c16 : c ≤ 16
  r1 : 1 ≤ r
  r16 : r ≤ 16
  cr : c * r ≤ 16
def spLeast : Sp := fun vs H Q _ => ∃ (k c r : Int), vs = [.int k, .int c, .int r] ∧ Drawn k c r ∧ FoundOk k (boxOf c r) ∧ ∀ H' p ys, Same H H' → H' p = some (.tup ys) → Cores H' ys (least k (boxOf c r)) → Q (.ref p) H'
def spFewest : Sp := fun vs H Q _ => ∃ (k c r : Int), vs = [.int k, .int c, .int r] ∧ Drawn k c r ∧ ∀ H', Same H H' → Q (.int (fewest k c r)) H'
abbrev sleast_cores_in : Stmt := topS 45
theorem scleast_cores_in : FnScope ["k", "goal", "found", "one", "other"] ["k", "goal"] (defScope sleast_cores_in) := ⟨rfl, rfl, rfl, by decide +kernel, rfl, by decide +kernel, by decide +kernel⟩

abbrev srequire_box_sides : Stmt := topS 46
theorem screquire_box_sides : FnScope ["columns", "rows", "side"] ["columns", "rows"] (defScope srequire_box_sides) := ⟨rfl, rfl, rfl, by decide +kernel, rfl, by decide +kernel, by decide +kernel⟩

abbrev sleast_cores : Stmt := topS 47
theorem scleast_cores : FnScope ["k", "columns", "rows"] ["k", "columns", "rows"] (defScope sleast_cores) := ⟨rfl, rfl, rfl, by decide +kernel, rfl, by decide +kernel, by decide +kernel⟩

abbrev sleast_letters : Stmt := topS 48
theorem scleast_letters : FnScope ["k", "columns", "rows", "less"] ["k", "columns", "rows"] (defScope sleast_letters) := ⟨rfl, rfl, rfl, by decide +kernel, rfl, by decide +kernel, by decide +kernel⟩

section
variable {P : Program} {w : World} {K : PySem.W.Frag} {mg : Str → Option Value} {base : Heap}
theorem kSortC {X : Cx} (K : PySem.W.Frag) (h : X.K = K := by rfl) : CallR X (.builtin "sorted") (rSortC K) := h ▸ cr_sortC
theorem ok_leastIn (B : Bi mg) (D : Here K mg "least_cores_in" sleast_cores_in ["k", "goal"]) (d_cores_that_hold : Ok P w K mg base 4 "cores_that_hold" ["k", "goal"] spThat) (d_holds_in : Ok P w K mg base 1 "holds_in" ["heap", "other"] spHolds) : Ok P w K mg base 5 "least_cores_in" ["k", "goal"] spLeastIn := by
  refine D.ok scleast_cores_in (fun vs H Q E h => ?_) (fun f cdv A outer s H vs Q E hr h => ?_)
  · obtain ⟨k, g, goal, rfl, _⟩ := h; rfl
  · obtain ⟨k, g, goal, rfl, hg, fo, q⟩ := h
    refine ⟨_, (pss_cons (ps_set (i := 2) scleast_cores_in.nd rfl (.inr rfl) (pe_own d_cores_that_hold hr (pa_cons (pv 0) (pa_cons (pv 1) pa_nil))))
      (pss_one (ps_ret (pe_callTy (kTupOf K) (by rfl) B.tuple bt_tuple (pa_cons (pe_callB (kSortC K) (by rfl) B.sorted bt_sorted (pa_cons (pe_lc (own := [("one", 3)]) rfl scleast_cores_in.nd (pi_listK K (pv 2)) (blkOk_by (N := ["k", "goal", "found", "one", "other"]) (sc := defScope sleast_cores_in) (by decide +kernel)) (fun _ _ _ _ _ => (pg_name (i := 3) scleast_cores_in.nd rfl (by first | exact Or.inl rfl | exact Or.inr rfl))) (fun _ _ _ _ _ => (pts_one (pt_not (pt_val (pe_callB (kAny K rfl) (by rfl) B.any bt_any (pa_cons (pe_lc (own := [("other", 4)]) rfl scleast_cores_in.nd (pi_listK K (pv 2)) (blkOk_in (blkOk_by (N := ["k", "goal", "found", "one", "other"]) (by decide +kernel))) (fun _ _ _ _ _ => (pg_name (i := 4) scleast_cores_in.nd rfl (by first | exact Or.inl rfl | exact Or.inr rfl))) (fun _ _ _ _ _ => (pts_one (pt_cmpR (kNeD K hr.units) (pv 4) (pv 3) (nomark _)))) (fun _ _ _ _ _ => (pe_own d_holds_in hr (pa_cons (pv 3) (pa_cons (pv 4) pa_nil))))) pa_nil)))))) (fun _ _ _ _ _ => (pv 3))) pa_nil)) pa_nil))))), ?_⟩
    refine ⟨.int k, rfl, .ref g, rfl, k, g, goal, rfl, hg, fo.box, fun H1 F xs s1 hF cF => ?_⟩
    obtain ⟨ps, rfl, e1, hps⟩ := tupF_list (F := fun c : Hg => c.map V.int) cF
    have hlen : ps.length ≤ 60 := by
      have := found_len fo.box
      rw [← e1, List.length_map] at this; exact this
    have fine : ∀ p ∈ ps, p.2 ≠ [] ∧ p.2.length ≤ 30 := fun p hp => fo.fine _ (by rw [← e1]; exact List.mem_map.mpr ⟨p, hp, rfl⟩)
    have hFL : SqL K H1 F (ps.map fun p => V.ref p.1) := .inl (.inl hF)
    refine ⟨.ref F, rfl, F, rfl, ⟨_, hFL⟩, fun L nL => ?_⟩
    refine lc_l (fun p : Addr × Hg => V.ref p.1) ps (fun p => if (!((((found k goal).filter fun other => decide (other ≠ p.2)).map fun other => holds p.2 other).any id)) = true then some (.ref p.1) else none) nL (by omega) hFL (fun i p H2 P1 P0 e s2 k1 k0 => ?_) fun H3 s3 e3 => ?_
    · have hp := hps p (mem_at e)
      have fp := fine p (mem_at e)
      refine ⟨rfl, .ref F, rfl, F, rfl, ⟨_, s2.seq hFL⟩, fun L2 nL2 => ?_⟩
      refine lc_l (fun p : Addr × Hg => V.ref p.1) ps (fun o => if decide (o.2 ≠ p.2) = true then some (.bl (holds p.2 o.2)) else none) nL2 (by omega) (s2.seq hFL) (fun j o H4 P1' P0' e' s4 k1' k0' => ?_) fun H5 s5 e5 => ?_
      · have ho := hps o (mem_at e')
        have hp4 := s4 _ _ (s2 _ _ hp)
        have ho4 := s4 _ _ (s2 _ _ ho)
        refine ⟨rfl, .ref o.1, rfl, .ref p.1, rfl, _, _, dp_core ⟨_, rfl, ho4⟩, dp_core ⟨_, rfl, hp4⟩, shp_core _, shp_core _, _, rfl, ?_⟩
        have en : (!PyData.eqv (coreD o.2) (coreD p.2)) = decide (o.2 ≠ p.2) := by
          rw [eqv_core]
          by_cases z : o.2 = p.2
          · rw [decide_eq_true z, decide_eq_false (fun y => y z)]; rfl
          · rw [decide_eq_false z, decide_eq_true z]; rfl
        rw [en]
        refine ite2 (fun z => ?_) (fun z => ?_)
        · exact ⟨.ref p.1, rfl, .ref o.1, rfl, p.1, o.1, p.2, o.2, rfl, hp4, ho4, by omega, fun H6 s6 => k1' _ _ (if_pos z) s6⟩
        · exact k0' _ (if_neg z) (Same.refl _)
      · rw [fm_if (fun o : Addr × Hg => decide (o.2 ≠ p.2)) (fun o => V.bl (holds p.2 o.2)) ps] at e5
        have eb : ((ps.filter fun o => decide (o.2 ≠ p.2)).map fun o => holds p.2 o.2) = ((found k goal).filter fun other => decide (other ≠ p.2)).map fun other => holds p.2 other := by
          rw [← e1, List.filter_map, List.map_map]; rfl
        refine ⟨L2, (ps.filter fun o => decide (o.2 ≠ p.2)).map fun o => holds p.2 o.2, rfl, .inl (.inl (by rw [e5, List.map_map]; rfl)), ?_⟩
        rw [eb]
        refine ⟨_, rfl, ite2 (fun z => ?_) (fun z => ?_)⟩
        · exact ⟨.ref p.1, rfl, k1 _ _ (if_pos z) s5⟩
        · exact k0 _ (if_neg z) s5
    · rw [fm_if (fun p : Addr × Hg => !((((found k goal).filter fun other => decide (other ≠ p.2)).map fun other => holds p.2 other).any id)) (fun p => V.ref p.1) ps] at e3
      have cL : Cores H3 ((ps.filter fun p : Addr × Hg => !((((found k goal).filter fun other => decide (other ≠ p.2)).map fun other => holds p.2 other).any id)).map fun p => V.ref p.1) (leastOf (found k goal)) := by
        unfold leastOf
        rw [show ((found k goal).filter fun one => !((((found k goal).filter fun other => decide (other ≠ one)).map fun other => holds one other).any id)) = (ps.filter fun p : Addr × Hg => !((((found k goal).filter fun other => decide (other ≠ p.2)).map fun other => holds p.2 other).any id)).map (·.2) from by
          conv => lhs; rw [show found k goal = ps.map (·.2) from e1.symm, List.filter_map]
          rw [show ps.map (·.2) = found k goal from e1]; rfl]
        have sub : ∀ p ∈ ps.filter fun p : Addr × Hg => !((((found k goal).filter fun other => decide (other ≠ p.2)).map fun other => holds p.2 other).any id), H3 p.1 = some (.tup (p.2.map V.int)) := fun p hp => s3 _ _ (hps p (List.mem_filter.mp hp).1)
        generalize (ps.filter fun p : Addr × Hg => !((((found k goal).filter fun other => decide (other ≠ p.2)).map fun other => holds p.2 other).any id)) = qs at sub
        induction qs with
        | nil => exact .nil
        | cons x r ih => exact .cons ⟨_, rfl, sub x List.mem_cons_self⟩ (ih fun p hp => sub p (List.mem_cons_of_mem _ hp))
      refine ⟨L, _, _, rfl, .inl (.inl e3), cL, fun d hd => (fo.fine d (List.mem_filter.mp hd).1).1, fun ys p np cy => ?_⟩
      have sp := sm_new (o := .lst ys) np
      refine ⟨p, _, rfl, .inl ⟨.inl (.inl upd_same), fun t nt => ?_⟩⟩
      exact q _ _ ys (s1.trans (s3.trans (sp.trans (sm_new nt)))) upd_same (Cores.same (Cores.same cy sp) (sm_new nt))
theorem ok_sides (C : Cn mg) (D : Here K mg "require_box_sides" srequire_box_sides ["columns", "rows"]) (d_is_within : Ok P w K mg base 2 "is_within" ["value", "least", "most"] spWithin) : Ok P w K mg base 3 "require_box_sides" ["columns", "rows"] spSides := by
  refine D.ok screquire_box_sides (fun vs H Q E h => ?_) (fun f cdv A outer s H vs Q E hr h => ?_)
  · obtain ⟨c, r, rfl, _⟩ := h; rfl
  · obtain ⟨c, r, rfl, h1, h2, h3, h4, h5, q⟩ := h
    refine ⟨_, (pss_cons (ps_for PassesOwn.never rfl (pi_tupK K (pe_tup (pa_cons (pv 0) (pa_cons (pv 1) pa_nil)))) (pg_name (i := 2) screquire_box_sides.nd rfl (by first | exact Or.inl rfl | exact Or.inr rfl))
        (pss_one (ps_if (pt_not (pt_val (pe_own d_is_within hr (pa_cons (pv 2) (pa_cons pe_int (pa_cons (pe_cn C.MAX_BOX) pa_nil)))))) (pss_one ps_never) pss_nil)))
      (pss_one (ps_if (pt_cmpR op_gt (pe_op op_mul (pv 0) (pv 1)) (pe_cn C.MAX_BOX) (nomark _)) (pss_one ps_never) pss_nil))), ?_⟩
    refine ⟨.int c, rfl, .int r, rfl, by show 2 ≤ sizeLine; decide, fun p np => ⟨p, rfl, ⟨_, .inl (.inl upd_same)⟩, ?_⟩⟩
    have hp : ∀ H', Same (upd H p (.tup [V.int c, V.int r])) H' → SqT K H' p [V.int c, V.int r] := fun H' s => .inl (.inl (s _ _ upd_same))
    refine for_it (walk_tup (K := K) (a := p) (xs := [V.int c, V.int r])) (fun i σ H' => Same (upd H p (.tup [V.int c, V.int r])) H' ∧ ∃ y, σ = [some (.int c), some (.int r), y]) ⟨Same.refl _, none, rfl⟩ (fun i σ H' _ z => hp _ z.1) (fun i x σ H0 H2 hi z y => ?_) fun σ H2 z => ?_
    · obtain ⟨s2, y2, rfl⟩ := z
      obtain ⟨rfl, hx⟩ := y
      have hv : ∃ v : Int, x = .int v ∧ 1 ≤ v ∧ v ≤ 16 := by
        match i, hx with
        | 0, e => exact ⟨c, (Option.some.inj e).symm, h1, h2⟩
        | 1, e => exact ⟨r, (Option.some.inj e).symm, h3, h4⟩
        | i + 2, e => simp at e
      obtain ⟨v, rfl, v1, v2⟩ := hv
      refine ⟨.int v, rfl, v, 1, 16, rfl, _, rfl, ?_⟩
      rw [decide_eq_true v1, decide_eq_true v2]
      exact iteF ⟨s2, _, rfl⟩
    · obtain ⟨s2, y2, rfl⟩ := z
      refine ⟨.int c, rfl, .int r, rfl, c, r, rfl, rfl, .inl ⟨by omega, by omega⟩, _, 16, rfl, rfl, _, rfl, ?_⟩
      rw [decide_eq_false (show ¬ ((16 : Int) < c * r) by omega)]
      exact iteF (q _ ((sm_new np).trans s2))
theorem ok_least (D : Here K mg "least_cores" sleast_cores ["k", "columns", "rows"]) (d_require_order : Ok P w K mg base 3 "require_order" ["k"] spOrder) (d_require_box_sides : Ok P w K mg base 3 "require_box_sides" ["columns", "rows"] spSides) (d_least_cores_in : Ok P w K mg base 5 "least_cores_in" ["k", "goal"] spLeastIn)
    (d_box_in : Ok P w K mg base 1 "box_in" ["columns", "rows"] spBox) : Ok P w K mg base 6 "least_cores" ["k", "columns", "rows"] spLeast := by
  refine D.ok scleast_cores (fun vs H Q E h => ?_) (fun f cdv A outer s H vs Q E hr h => ?_)
  · obtain ⟨k, c, r, rfl, _⟩ := h; rfl
  · obtain ⟨k, c, r, rfl, d, fo, q⟩ := h
    refine ⟨_, (pss_cons (ps_expr (pe_own d_require_order hr (pa_cons (pv 0) pa_nil)))
      (pss_cons (ps_expr (pe_own d_require_box_sides hr (pa_cons (pv 1) (pa_cons (pv 2) pa_nil))))
      (pss_one (ps_ret (pe_own d_least_cores_in hr (pa_cons (pv 0) (pa_cons (pe_own d_box_in hr (pa_cons (pv 1) (pa_cons (pv 2) pa_nil))) pa_nil))))))), ?_⟩
    refine ⟨.int k, rfl, k, rfl, d.k2, d.k6, .int c, rfl, .int r, rfl, c, r, rfl, d.c1, d.c16, d.r1, d.r16, d.cr, fun H1 s1 => ?_⟩
    refine ⟨.int k, rfl, .int c, rfl, .int r, rfl, c, r, rfl, d.c1, d.c16, d.r1, fun H2 g s2 hg => ⟨k, g, _, rfl, hg, fo, fun H3 p ys s3 e3 c3 => q _ _ ys (s1.trans (s2.trans s3)) e3 c3⟩⟩
theorem ok_fewest (B : Bi mg) (D : Here K mg "least_letters" sleast_letters ["k", "columns", "rows"]) (d_require_order : Ok P w K mg base 3 "require_order" ["k"] spOrder) (d_require_box_sides : Ok P w K mg base 3 "require_box_sides" ["columns", "rows"] spSides) : Ok P w K mg base 4 "least_letters" ["k", "columns", "rows"] spFewest := by
  refine D.ok scleast_letters (fun vs H Q E h => ?_) (fun f cdv A outer s H vs Q E hr h => ?_)
  · obtain ⟨k, c, r, rfl, _⟩ := h; rfl
  · obtain ⟨k, c, r, rfl, d, q⟩ := h
    obtain ⟨d1, d2, d3, d4, d5, d6, d7⟩ := d
    refine ⟨_, (pss_cons (ps_expr (pe_own d_require_order hr (pa_cons (pv 0) pa_nil)))
      (pss_cons (ps_expr (pe_own d_require_box_sides hr (pa_cons (pv 1) (pa_cons (pv 2) pa_nil))))
      (pss_one (ps_ret (pe_callB (kMin K rfl) (by rfl) B.min bt_min (pa_cons (pe_lc (own := [("less", 3)]) rfl scleast_letters.nd (pi_range1 rfl B.range (pa_cons (pe_callB (call_min2 rfl) (by rfl) B.min bt_min (pa_cons (pv 1) (pa_cons (pv 2) pa_nil))) pa_nil)) (blkOk_by (N := ["k", "columns", "rows", "less"]) (sc := defScope sleast_letters) (by decide +kernel)) (fun _ _ _ _ _ => (pg_name (i := 3) scleast_letters.nd rfl (by first | exact Or.inl rfl | exact Or.inr rfl))) (fun _ _ _ _ _ => pts_nil) (fun _ _ _ _ _ => (pe_op op_add (pe_op op_mul (pe_op op_sub (pv 1) (pv 3)) (pe_op op_sub (pv 2) (pv 3))) (pe_op op_mul (pv 3) (pv 0))))) pa_nil)))))), ?_⟩
    refine ⟨.int k, rfl, k, rfl, d1, d2, .int c, rfl, .int r, rfl, c, r, rfl, d3, d4, d5, d6, d7, fun H1 s1 => ?_⟩
    have em : (if r < c then r else c) = min c r := by split <;> omega
    refine ⟨.int c, rfl, .int r, rfl, c, r, rfl, ?_⟩
    rw [em]
    refine ⟨min c r, rfl, by omega, by omega, fun L nL => ?_⟩
    refine lc_r (lo := 0) (n := (min c r).toNat) (fun l => some (.int ((c - l) * (r - l) + l * k))) nL (by omega) (fun i l H2 P1 P0 el hi s2 k1 k0 => ?_) fun H3 s3 e3 => ?_
    · exact ⟨rfl, lc_yes ⟨.int c, rfl, .int l, rfl, _, _, rfl, rfl, .int r, rfl, .int l, rfl, _, _, rfl, rfl, _, _, rfl, rfl, .inl ⟨by omega, by omega⟩, .int l, rfl, .int k, rfl, _, _, rfl, rfl, .inl ⟨by omega, by omega⟩, _, _, rfl, rfl, k1 _ _ rfl (Same.refl _)⟩⟩
    · rw [fm_some] at e3
      refine ⟨L, (rng 0 (min c r).toNat).map fun l => (c - l) * (r - l) + l * k, rfl, .inl (.inl (by rw [e3, List.map_map]; rfl)), ?_, fun m hm hle => ?_⟩
      · unfold rng; rw [List.length_map, List.length_map, List.length_range]; omega
      · rw [minI_is hm hle]
        exact q _ (s1.trans s3)
end
end L2.Q67
namespace L2.Q67
open PySem PySem.Spec PyProof.Rows R67
/-! ### the dice: one list that turns, all else stands -/
def But (a : Addr) (H H' : Hp) : Prop := ∀ b o, b ≠ a → H b = some o → H' b = some o
theorem but_same {a : Addr} {H H' : Hp} (s : Same H H') : But a H H' := fun b o _ e => s b o e
theorem but_trans {a : Addr} {H H1 H2 : Hp} (x : But a H H1) (y : But a H1 H2) : But a H H2 := fun b o n e => y b o n (x b o n e)
theorem but_upd {a : Addr} {H : Hp} {o : HO} : But a H (upd H a o) := fun b u n e => by rw [upd_ne n]; exact e
def isDice (H : Hp) (a : Addr) : Prop := ∃ x y z : Int, H a = some (.lst [.int x, .int y, .int z])
theorem dice_same {H H' : Hp} {a : Addr} (d : isDice H a) (s : Same H H') : isDice H' a := let ⟨x, y, z, e⟩ := d; ⟨x, y, z, s _ _ e⟩
theorem dice_ne {H : Hp} {a t : Addr} {xs : List V} (d : isDice H a) (h : H t = some (.tup xs)) : t ≠ a := by
  obtain ⟨x, y, z, e⟩ := d
  exact ne_of h e (by intro z; cases z)
def spRoll : Sp := fun vs H Q _ => ∃ (a : Addr) (t : Int), vs = [.ref a, .int t] ∧ isDice H a ∧ 0 < t ∧ t ≤ 1000 ∧ ∀ H' r, But a H H' → isDice H' a → 0 ≤ r → r < t → Q (.int r) H'
def spOneOf : Sp := fun vs H Q _ => ∃ (a b : Addr) (ns : List Int), vs = [.ref a, .ref b] ∧ isDice H a ∧ b ≠ a ∧ H b = some (.lst (ns.map V.int)) ∧ 0 < ns.length ∧ ns.length ≤ 1000 ∧ ∀ H' r, But a H H' → isDice H' a → r ∈ ns → Q (.int r) H'
def spCommon : Sp := fun vs H Q _ => ∃ (x y : Nat), vs = [.int x, .int y] ∧ Q (.int (Nat.gcd x y : Nat)) H
/-- a drawn ring of the order k -/
def RingK (k : Int) (q : Int × Int) : Prop := ∃ m s : Int, q = (k * m, m * s) ∧ 1 ≤ m ∧ m ≤ 2 ∧ 1 ≤ s ∧ s < k ∧ Nat.gcd k.toNat s.toNat = 1
def spRingOf : Sp := fun vs H Q _ => ∃ (a : Addr) (k : Int), vs = [.ref a, .int k, .int 2] ∧ isDice H a ∧ 2 ≤ k ∧ k ≤ 6 ∧ ∀ H' t q, But a H H' → isDice H' a → isRing H' t q → RingK k q → Q (.ref t) H'
abbrev sLroll : Stmt := topS 51
theorem scLroll : FnScope ["_law_dice_here", "_law_total", "_law_size", "_law_drawn", "_law_one", "_law_two"] ["_law_dice_here", "_law_total"] (defScope sLroll) := ⟨rfl, rfl, rfl, by decide +kernel, rfl, by decide +kernel, by decide +kernel⟩

abbrev sLone_of : Stmt := topS 52
theorem scLone_of : FnScope ["_law_dice_here", "_law_items"] ["_law_dice_here", "_law_items"] (defScope sLone_of) := ⟨rfl, rfl, rfl, by decide +kernel, rfl, by decide +kernel, by decide +kernel⟩

abbrev sLcommon : Stmt := topS 53
theorem scLcommon : FnScope ["_law_one", "_law_other"] ["_law_one", "_law_other"] (defScope sLcommon) := ⟨rfl, rfl, rfl, by decide +kernel, rfl, by decide +kernel, by decide +kernel⟩

abbrev sLring_of : Stmt := topS 54
theorem scLring_of : FnScope ["_law_dice_here", "_law_k", "_law_times", "_law_more", "_law_steps", "_law_one"] ["_law_dice_here", "_law_k", "_law_times"] (defScope sLring_of) := ⟨rfl, rfl, rfl, by decide +kernel, rfl, by decide +kernel, by decide +kernel⟩

section
variable {P : Program} {w : World} {K : PySem.W.Frag} {mg : Str → Option Value} {base : Heap}
theorem ok_roll (B : Bi mg) (D : Here K mg "_law_roll" sLroll ["_law_dice_here", "_law_total"]) : Ok P w K mg base 1 "_law_roll" ["_law_dice_here", "_law_total"] spRoll := by
  refine D.ok scLroll (fun vs H Q E h => ?_) (fun f cdv A outer s H vs Q E hr h => ?_)
  · obtain ⟨a, t, rfl, _⟩ := h; rfl
  · obtain ⟨a, t, rfl, ⟨x, y, z, hd⟩, t0, t1, q⟩ := h
    have hL : SqL K H a [.int x, .int y, .int z] := .inl (.inl hd)
    refine ⟨_, (pss_cons (ps_set (i := 2) scLroll.nd rfl (.inl rfl) (pe_callTy call_int1 (by rfl) B.int bt_int (pa_cons (pv 1) pa_nil)))
      (pss_cons (ps_if (pt_cmpR op_gt (pe_ix (kIxL K) (pv 0) pe_int (fun _ _ => rfl)) pe_int (nomark _)) (pss_cons (ps_set (i := 3) scLroll.nd rfl (.inl rfl) (pe_op op_mod (pe_ix (kIxL K) (pv 0) pe_int (fun _ _ => rfl)) (pv 2)))
      (pss_cons (ps_asg (pe_op op_fdivN (pe_ix (kIxL K) (pv 0) pe_int (fun _ _ => rfl)) (pv 2)) (pg_sub (pv 0) pe_int set_list))
      (pss_one (ps_ret (pe_callTy call_int1 (by rfl) B.int bt_int (pa_cons (pv 3) pa_nil)))))) pss_nil)
      (pss_cons (ps_asg (pe_op op_add (pe_ix (kIxL K) (pv 0) pe_int (fun _ _ => rfl)) pe_int) (pg_sub (pv 0) pe_int set_list))
      (pss_cons (ps_set (i := 4) scLroll.nd rfl (.inl rfl) (pe_op op_mod (pe_op op_add (pe_ix (kIxL K) (pv 0) pe_int (fun _ _ => rfl)) (pe_op op_mul pe_int (pe_ix (kIxL K) (pv 0) pe_int (fun _ _ => rfl)))) pe_int))
      (pss_cons (ps_set (i := 5) scLroll.nd rfl (.inl rfl) (pe_op op_add (pe_op op_mul (pe_op op_mod (pe_op op_mul (pv 4) (pv 4)) pe_int) (pv 4)) (pe_op op_mul pe_int (pe_ix (kIxL K) (pv 0) pe_int (fun _ _ => rfl)))))
      (pss_cons (ps_set (i := 5) scLroll.nd rfl (.inl rfl) (pe_op op_mod (pv 5) pe_int))
      (pss_one (ps_ret (pe_callTy call_int1 (by rfl) B.int bt_int (pa_cons (pe_op op_mod (pe_op op_fdivN (pv 5) pe_int) (pv 2)) pa_nil)))))))))), ?_⟩
    refine ⟨.int t, rfl, .inl ⟨t, rfl, ?_⟩⟩
    refine ⟨.ref a, rfl, a, _, 0, .int x, rfl, rfl, hL, rfl, x, 0, rfl, rfl, _, rfl, ite2 (fun c => ?_) (fun c => ?_)⟩
    · refine ⟨.ref a, rfl, a, _, 0, .int x, rfl, rfl, hL, rfl, .int t, rfl, x, t, rfl, rfl, t0, ?_⟩
      refine ⟨.ref a, rfl, a, _, 0, .int x, rfl, rfl, hL, rfl, .int t, rfl, x, t, rfl, rfl, ⟨by omega, by omega⟩, .ref a, rfl, a, _, 0, 0, rfl, rfl, hd, rfl, ?_⟩
      refine ⟨.int (x % t), rfl, .inl ⟨_, rfl, ?_⟩⟩
      exact q _ _ but_upd ⟨x.fdiv t, y, z, upd_same⟩ (Int.emod_nonneg _ (by omega)) (Int.emod_lt_of_pos _ t0)
    · refine ⟨.ref a, rfl, a, _, 2, .int z, rfl, rfl, hL, rfl, z, 1, rfl, rfl, .ref a, rfl, a, _, 2, 2, rfl, rfl, hd, rfl, ?_⟩
      have hd2 : (upd H a (.lst [V.int x, V.int y, V.int (z + 1)])) a = some (.lst [V.int x, V.int y, V.int (z + 1)]) := upd_same
      have hL2 : SqL K (upd H a (.lst [V.int x, V.int y, V.int (z + 1)])) a [V.int x, V.int y, V.int (z + 1)] := .inl (.inl hd2)
      refine ⟨.ref a, rfl, a, _, 1, .int y, rfl, rfl, hL2, rfl, .ref a, rfl, a, _, 2, .int (z + 1), rfl, rfl, hL2, rfl, 1000409, z + 1, rfl, rfl, .inl ⟨by decide, by decide⟩, _, _, rfl, rfl, _, 2305843009213693951, rfl, rfl, (by decide : (0 : Int) < 2305843009213693951), ?_⟩
      obtain ⟨o, ho⟩ : ∃ o : Int, o = (y + 1000409 * (z + 1)) % 2305843009213693951 := ⟨_, rfl⟩
      have o1 : 0 ≤ o := by rw [ho]; exact Int.emod_nonneg _ (by decide)
      have o2 : o < 2305843009213693951 := by rw [ho]; exact Int.emod_lt_of_pos _ (by decide)
      refine ⟨.int o, by rw [ho]; rfl, .int o, by rw [ho]; rfl, o, o, rfl, rfl, .inl ⟨by omega, by omega⟩, _, 2305843009213693921, rfl, rfl, (by decide : (0 : Int) < 2305843009213693921), .int o, by rw [ho]; rfl, _, o, rfl, rfl, .inr ⟨by omega, by omega⟩, .ref a, rfl, a, _, 2, .int (z + 1), rfl, rfl, hL2, rfl, 9479, z + 1, rfl, rfl, .inl ⟨by decide, by decide⟩, _, _, rfl, rfl, ?_⟩
      refine ⟨_, rfl, _, 2305843009213693907, rfl, rfl, (by decide : (0 : Int) < 2305843009213693907), ?_⟩
      refine ⟨_, rfl, _, 4096, rfl, rfl, ⟨by decide, by decide⟩, .int t, rfl, _, t, rfl, rfl, t0, .inl ⟨_, rfl, ?_⟩⟩
      exact q _ _ but_upd ⟨x, y, z + 1, upd_same⟩ (Int.emod_nonneg _ (by omega)) (Int.emod_lt_of_pos _ t0)
theorem ok_oneOf (B : Bi mg) (D : Here K mg "_law_one_of" sLone_of ["_law_dice_here", "_law_items"]) (d__law_roll : Ok P w K mg base 1 "_law_roll" ["_law_dice_here", "_law_total"] spRoll) : Ok P w K mg base 2 "_law_one_of" ["_law_dice_here", "_law_items"] spOneOf := by
  refine D.ok scLone_of (fun vs H Q E h => ?_) (fun f cdv A outer s H vs Q E hr h => ?_)
  · obtain ⟨a, b, ns, rfl, _⟩ := h; rfl
  · obtain ⟨a, b, ns, rfl, hd, hab, hb, l0, l1, q⟩ := h
    refine ⟨_, (pss_one (ps_ret (pe_ix (kIxL K) (pv 1) (pe_own d__law_roll hr (pa_cons (pv 0) (pa_cons (pe_callB (kLen K) (by rfl) B.len PySem.boot_len (pa_cons (pv 1) pa_nil)) pa_nil))) (fun _ _ => rfl)))), ?_⟩
    refine ⟨.ref b, rfl, .ref a, rfl, .ref b, rfl, b, _, rfl, .inl (.inl (.inl hb)), a, _, rfl, hd, by rw [List.length_map]; omega, by rw [List.length_map]; omega, fun H' r bu d' r0 r1 => ?_⟩
    rw [List.length_map] at r1
    obtain ⟨i, rfl⟩ : ∃ i : Nat, r = i := ⟨r.toNat, by omega⟩
    have hi : i < ns.length := by omega
    have e : (ns.map V.int)[i]? = some (.int ns[i]) := by rw [List.getElem?_map, List.getElem?_eq_getElem hi]; rfl
    exact ⟨b, _, _, .int ns[i], rfl, rfl, .inl (.inl (bu _ _ hab hb)), atI_nat e, q _ _ bu d' (List.getElem_mem hi)⟩
theorem ok_common (D : Here K mg "_law_common" sLcommon ["_law_one", "_law_other"]) : Ok P w K mg base 1 "_law_common" ["_law_one", "_law_other"] spCommon := by
  refine D.ok scLcommon (fun vs H Q E h => ?_) (fun f cdv A outer s H vs Q E hr h => ?_)
  · obtain ⟨x, y, rfl, _⟩ := h; rfl
  · obtain ⟨x, y, rfl, q⟩ := h
    refine ⟨_, (pss_cons (ps_while PassesOwn.never (pt_cmpR op_ne (pv 1) pe_int (nomark _))
        (pss_one (ps_par (i := 0) (j := 1) rfl scLcommon.nd rfl rfl (by decide) rfl rfl (pa_cons (pv 1) (pa_cons (pe_op op_mod (pv 0) (pv 1)) pa_nil)) (by rfl))))
      (pss_one (ps_ret (pv 0)))), ?_⟩
    refine ⟨fun m σ H' => H' = H ∧ ∃ u v : Nat, σ = [some (.int u), some (.int v)] ∧ m = v ∧ Nat.gcd u v = Nat.gcd x y, ⟨y, rfl, x, y, rfl, rfl, rfl⟩, fun m σ H' hW => ?_⟩
    obtain ⟨rfl, u, v, rfl, rfl, hg⟩ := hW
    refine ⟨.int m, rfl, rfl, _, rfl, ite2 (fun c => ?_) (fun c => ?_)⟩
    · have hm : m ≠ 0 := fun z => by rw [z] at c; simp at c
      refine ⟨fun σ' H2 => H2 = H' ∧ ∃ u v : Nat, σ' = [some (.int u), some (.int v)] ∧ v < m ∧ Nat.gcd u v = Nat.gcd x y, fun σ' H2 h => ?_, ?_⟩
      · obtain ⟨rfl, u2, v2, e, l, g⟩ := h
        exact ⟨v2, l, rfl, u2, v2, e, rfl, g⟩
      · refine ⟨.int m, rfl, .int u, rfl, .int m, rfl, u, m, rfl, rfl, by omega, _, _, rfl, rfl, m, u % m, ?_, Nat.mod_lt _ (by omega), ?_⟩
        · show [some (V.int (m : Int)), some (V.int ((u : Int) % (m : Int)))] = [some (V.int (m : Int)), some (V.int ((u % m : Nat) : Int))]
          rw [Int.natCast_emod]
        · rw [← hg, Nat.gcd_comm m, ← Nat.gcd_rec, Nat.gcd_comm]
    · have hm : m = 0 := by simpa using c
      subst hm
      refine ⟨.int u, rfl, ?_⟩
      rw [← hg, Nat.gcd_zero_right] at q
      exact q
end
end L2.Q67
namespace L2.Q67
open PySem PySem.Spec PyProof.Rows R67
def spEqual : Sp := fun vs H Q _ => ∃ (a : Addr) (g k : Int), vs = [.ref a, .int g, .int k] ∧ isDice H a ∧ 1 ≤ g ∧ g ≤ 8 ∧ 2 ≤ k ∧ k ≤ 6 ∧ ∀ H' p l, But a H H' → isDice H' a → isChain H' p l → l.length = g.toNat → (∀ c ∈ l, RingK k c.2) → Q (.ref p) H'
def spLTuple : Sp := fun vs H Q _ => ∃ (a c : Addr) (l : List Lk), vs = [.ref a, .ref c] ∧ isDice H a ∧ isChain H c l ∧ ChainOk l ∧ ∀ H' p ps, But a H H' → isDice H' a → H' p = some (.tup (ps.map V.int)) → PlOk l ps → Q (.ref p) H'
theorem coprime_mem {k : Int} (h2 : 2 ≤ k) : (1 : Int) ∈ (rng 1 (k - 1).toNat).filter fun c => decide (Nat.gcd k.toNat c.toNat = 1) := by
  refine List.mem_filter.mpr ⟨List.mem_map.mpr ⟨0, List.mem_range.mpr (by omega), rfl⟩, ?_⟩
  exact decide_eq_true (by rw [show (1 : Int).toNat = 1 from rfl]; exact Nat.gcd_one_right _)
abbrev sLequal_chain : Stmt := topS 55
theorem scLequal_chain : FnScope ["_law_dice_here", "_law_rings", "_law_k", "_law_turn"] ["_law_dice_here", "_law_rings", "_law_k"] (defScope sLequal_chain) := ⟨rfl, rfl, rfl, by decide +kernel, rfl, by decide +kernel, by decide +kernel⟩

abbrev sLtuple : Stmt := topS 56
theorem scLtuple : FnScope ["_law_dice_here", "_law_chain", "_law_found", "_law_n", "_law_s"] ["_law_dice_here", "_law_chain"] (defScope sLtuple) := ⟨rfl, rfl, rfl, by decide +kernel, rfl, by decide +kernel, by decide +kernel⟩

section
variable {P : Program} {w : World} {K : PySem.W.Frag} {mg : Str → Option Value} {base : Heap}
theorem ok_ringOf (B : Bi mg) (D : Here K mg "_law_ring_of" sLring_of ["_law_dice_here", "_law_k", "_law_times"]) (d__law_roll : Ok P w K mg base 1 "_law_roll" ["_law_dice_here", "_law_total"] spRoll) (d__law_one_of : Ok P w K mg base 2 "_law_one_of" ["_law_dice_here", "_law_items"] spOneOf)
    (d__law_common : Ok P w K mg base 1 "_law_common" ["_law_one", "_law_other"] spCommon) : Ok P w K mg base 3 "_law_ring_of" ["_law_dice_here", "_law_k", "_law_times"] spRingOf := by
  refine D.ok scLring_of (fun vs H Q E h => ?_) (fun f cdv A outer s H vs Q E hr h => ?_)
  · obtain ⟨a, k, rfl, _⟩ := h; rfl
  · obtain ⟨a, k, rfl, hd, k2, k6, q⟩ := h
    refine ⟨_, (pss_cons (ps_set (i := 3) scLring_of.nd rfl (.inl rfl) (pe_op op_add pe_int (pe_own d__law_roll hr (pa_cons (pv 0) (pa_cons (pv 2) pa_nil)))))
      (pss_cons (ps_setLc (i := 4) (own := [("_law_one", 5)]) rfl scLring_of.nd rfl rfl (sw_true rfl rfl rfl (by decide +kernel)) (pi_range2 rfl B.range (pa_cons pe_int (pa_cons (pv 1) pa_nil))) (blkOk_by (N := ["_law_dice_here", "_law_k", "_law_times", "_law_more", "_law_steps", "_law_one"]) (sc := defScope sLring_of) (by decide +kernel)) (fun _ _ _ _ _ => (pg_name (i := 5) scLring_of.nd rfl (by first | exact Or.inl rfl | exact Or.inr rfl))) (fun _ _ _ _ _ => (pts_one (pt_cmpR op_eq (pe_own d__law_common hr (pa_cons (pv 1) (pa_cons (pv 5) pa_nil))) pe_int (nomark _)))) (fun _ _ _ _ _ => (pv 5)))
      (pss_one (ps_ret (pe_tup (pa_cons (pe_op op_mul (pv 1) (pv 3)) (pa_cons (pe_op op_mul (pv 3) (pe_own d__law_one_of hr (pa_cons (pv 0) (pa_cons (pv 4) pa_nil)))) pa_nil))))))), ?_⟩
    refine ⟨.ref a, rfl, .int 2, rfl, a, 2, rfl, hd, by decide, by decide, fun H1 r b1 d1 r0 r1 => ⟨1, r, rfl, rfl, ?_⟩⟩
    refine ⟨.int k, rfl, 1, k, rfl, ⟨by omega, by omega, by omega, by omega⟩, fun L nL => ?_⟩
    refine lc_r (lo := 1) (n := (k - 1).toNat) (fun c => if decide (Nat.gcd k.toNat c.toNat = 1) = true then some (.int c) else none) nL (by omega) (fun i c H2 P1 P0 ec hi s2 k1 k0 => ?_) fun H2 s2 e2 => ?_
    · refine ⟨rfl, .int k, rfl, .int c, rfl, k.toNat, c.toNat, ?_, rfl, _, rfl, ?_⟩
      · show [V.int k, V.int c] = [V.int (k.toNat : Int), V.int (c.toNat : Int)]
        rw [show (k.toNat : Int) = k by omega, show (c.toNat : Int) = c by omega]
      · have e : decide (V.int ((Nat.gcd k.toNat c.toNat : Nat) : Int) = V.int 1) = decide (Nat.gcd k.toNat c.toNat = 1) := decide_eq_decide.mpr ⟨fun z => by have := V.int.inj z; omega, fun z => by rw [z]; rfl⟩
        rw [e]
        refine ite2 (fun z => ?_) (fun z => ?_)
        · exact ⟨.int c, rfl, k1 _ _ (if_pos z) (Same.refl _)⟩
        · exact k0 _ (if_neg z) (Same.refl _)
    · rw [fm_if (fun c : Int => decide (Nat.gcd k.toNat c.toNat = 1)) V.int] at e2
      have d2 := dice_same d1 s2
      have hLa : L ≠ a := by
        obtain ⟨x, y, z, e⟩ := d1
        exact Ne.symm (ne_of_none e nL)
      have hm := coprime_mem k2
      refine ⟨.int k, rfl, .int (1 + r), rfl, k, 1 + r, rfl, rfl, .inl ⟨by omega, by omega⟩, .int (1 + r), rfl, .ref a, rfl, .ref L, rfl, a, L, _, rfl, d2, hLa, e2, List.length_pos_of_mem hm, ?_, fun H3 s b3 d3 hs => ⟨1 + r, s, rfl, rfl, .inl ⟨by omega, by omega⟩, by show 2 ≤ sizeLine; decide, fun t nt => ?_⟩⟩
      · refine Nat.le_trans (List.length_filter_le _ _) ?_
        unfold rng; rw [List.length_map, List.length_range]; omega
      · have st := sm_new (o := .tup [V.int (k * (1 + r)), V.int ((1 + r) * s)]) nt
        obtain ⟨hs1, hs2⟩ := List.mem_filter.mp hs
        obtain ⟨i, hi, rfl⟩ := List.mem_map.mp hs1
        have hi := List.mem_range.mp hi
        exact q _ t (k * (1 + r), (1 + r) * (1 + (i : Nat))) (but_trans b1 (but_trans (but_same s2) (but_trans b3 (but_same st)))) (dice_same d3 st) upd_same ⟨1 + r, 1 + (i : Nat), rfl, by omega, by omega, by omega, by omega, of_decide_eq_true hs2⟩
theorem ok_equal (B : Bi mg) (D : Here K mg "_law_equal_chain" sLequal_chain ["_law_dice_here", "_law_rings", "_law_k"]) (d__law_ring_of : Ok P w K mg base 3 "_law_ring_of" ["_law_dice_here", "_law_k", "_law_times"] spRingOf) : Ok P w K mg base 4 "_law_equal_chain" ["_law_dice_here", "_law_rings", "_law_k"] spEqual := by
  refine D.ok scLequal_chain (fun vs H Q E h => ?_) (fun f cdv A outer s H vs Q E hr h => ?_)
  · obtain ⟨a, g, k, rfl, _⟩ := h; rfl
  · obtain ⟨a, g, k, rfl, hd, g1, g8, k2, k6, q⟩ := h
    refine ⟨_, (pss_one (ps_ret (pe_callTy (kTupOf K) (by rfl) B.tuple bt_tuple (pa_cons (pe_lc (own := [("_law_turn", 3)]) rfl scLequal_chain.nd (pi_range1 rfl B.range (pa_cons (pv 1) pa_nil)) (blkOk_by (N := ["_law_dice_here", "_law_rings", "_law_k", "_law_turn"]) (sc := defScope sLequal_chain) (by decide +kernel)) (fun _ _ _ _ _ => (pg_name (i := 3) scLequal_chain.nd rfl (by first | exact Or.inl rfl | exact Or.inr rfl))) (fun _ _ _ _ _ => pts_nil) (fun _ _ _ _ _ => (pe_own d__law_ring_of hr (pa_cons (pv 0) (pa_cons (pv 2) (pa_cons pe_int pa_nil)))))) pa_nil)))), ?_⟩
    refine ⟨.int g, rfl, g, rfl, by omega, by omega, fun L nL => ?_⟩
    have hLa : L ≠ a := by
      obtain ⟨x, y, z, e⟩ := hd
      exact Ne.symm (ne_of_none e nL)
    have sL := sm_new (o := .lst []) nL
    refine lc_it (walk_range (lo := 0) (n := g.toNat)) (fun i H2 => But a H H2 ∧ isDice H2 a ∧ ∃ l : List Lk, l.length = i ∧ H2 L = some (.lst (l.map fun c => V.ref c.1)) ∧ ∀ c ∈ l, isRing H2 c.1 c.2 ∧ RingK k c.2)
      ⟨but_same sL, dice_same hd sL, [], rfl, upd_same, fun c hc => by cases hc⟩ (fun _ _ _ _ => trivial) (fun i x H0 H2 hi p y => ?_) fun H2 p => ?_
    · obtain ⟨b2, d2, l, hl, hL, hc⟩ := p
      obtain ⟨rfl, rfl⟩ := y
      refine ⟨rfl, lc_yes ?_⟩
      refine ⟨.ref a, rfl, .int k, rfl, a, k, rfl, d2, k2, k6, fun H3 t qq b3 d3 ht hk => ?_⟩
      have hL3 := b3 _ _ hLa hL
      have htL : t ≠ L := ne_of ht hL3 (by intro z; cases z)
      refine ⟨_, hL3, ?_, fun b o nb e => ?_, ?_, l ++ [(t, qq)], ?_, ?_, fun c hcm => ?_⟩
      · rw [List.length_map, sizeLine_eq]; omega
      · rw [upd_ne (ne_of_none e nL)]; exact b3 _ _ nb (b2 _ _ nb e)
      · obtain ⟨x, y, z, e⟩ := d3
        exact ⟨x, y, z, by rw [upd_ne (Ne.symm hLa)]; exact e⟩
      · rw [List.length_append, hl]; rfl
      · rw [upd_same, List.map_append]; rfl
      · rcases List.mem_append.mp hcm with h | h
        · obtain ⟨h1, h2⟩ := hc c h
          refine ⟨?_, h2⟩
          have h3 := b3 _ _ (dice_ne d2 h1) h1
          show upd H3 L _ c.1 = _
          rw [upd_ne (ne_of h3 hL3 (by intro z; cases z))]; exact h3
        · rw [List.mem_singleton.mp h]
          refine ⟨?_, hk⟩
          show upd H3 L _ t = _
          rw [upd_ne htL]; exact ht
    · obtain ⟨b2, d2, l, hl, hL, hc⟩ := p
      refine ⟨L, _, rfl, .inl ⟨.inl (.inl hL), fun p np => ?_⟩⟩
      have sp := sm_new (o := .tup (l.map fun c => V.ref c.1)) np
      exact q _ p l (but_trans b2 (but_same sp)) (dice_same d2 sp) ⟨upd_same, fun c h => sp _ _ (hc c h).1⟩ hl fun c h => (hc c h).2
theorem ok_ltuple (B : Bi mg) (D : Here K mg "_law_tuple" sLtuple ["_law_dice_here", "_law_chain"]) (d__law_roll : Ok P w K mg base 1 "_law_roll" ["_law_dice_here", "_law_total"] spRoll) : Ok P w K mg base 2 "_law_tuple" ["_law_dice_here", "_law_chain"] spLTuple := by
  refine D.ok scLtuple (fun vs H Q E h => ?_) (fun f cdv A outer s H vs Q E hr h => ?_)
  · obtain ⟨a, c, l, rfl, _⟩ := h; rfl
  · obtain ⟨a, c, l, rfl, hd, hc, ⟨o1, o2, o3⟩, q⟩ := h
    refine ⟨_, (pss_cons (ps_set (i := 2) scLtuple.nd rfl (.inl rfl) (pe_lst pa_nil))
      (pss_cons (ps_for PassesOwn.never rfl (pi_tupK K (pv 1)) (pg_tupK (n := 2) K rfl (pgs_cons (pg_name (i := 3) scLtuple.nd rfl (by first | exact Or.inl rfl | exact Or.inr rfl)) (pgs_cons (pg_name (i := 4) scLtuple.nd rfl (by first | exact Or.inl rfl | exact Or.inr rfl)) pgs_nil)))
        (pss_one (ps_expr (pe_bm PySem.F.plainAttrs_list PySem.F.slot_list_append PySem.F.type_list_append mt_append (pv 2) (pa_cons (pe_ifExp (pt_cmpR op_eq (pe_own d__law_roll hr (pa_cons (pv 0) (pa_cons pe_int pa_nil))) pe_int (nomark _)) (pe_own d__law_roll hr (pa_cons (pv 0) (pa_cons (pv 3) pa_nil))) (pe_op op_mod (pe_op op_mul (pe_op op_sub (pe_own d__law_roll hr (pa_cons (pv 0) (pa_cons pe_int pa_nil))) pe_int) (pv 4)) (pv 3))) pa_nil)))))
      (pss_one (ps_ret (pe_callTy (kTupOf K) (by rfl) B.tuple bt_tuple (pa_cons (pv 2) pa_nil)))))), ?_⟩
    refine ⟨Nat.zero_le _, fun F nF => ?_⟩
    have hFa : F ≠ a := by
      obtain ⟨x, y, z, e⟩ := hd
      exact Ne.symm (ne_of_none e nF)
    have sF := sm_new (o := .lst []) nF
    have hT : ∀ H', But a H H' → isDice H' a → SqT K H' c (l.map fun x => V.ref x.1) := fun H' b d => .inl (.inl (b _ _ (dice_ne hd hc.1) hc.1))
    refine ⟨.ref c, rfl, c, rfl, ⟨_, hT _ (but_same sF) (dice_same hd sF)⟩, ?_⟩
    refine for_it (walk_tup (K := K) (a := c) (xs := l.map fun x => V.ref x.1)) (fun i σ H' => But a H H' ∧ isDice H' a ∧ ∃ (ps : List Int) (y3 y4 : Option V), σ = [some (.ref a), some (.ref c), some (.ref F), y3, y4] ∧ ps.length = i ∧ H' F = some (.lst (ps.map V.int)) ∧ ∀ z ∈ l.zip ps, 0 ≤ z.2 ∧ z.2 < z.1.2.1)
      ⟨but_same sF, dice_same hd sF, [], none, none, rfl, rfl, upd_same, fun z hz => by rw [List.zip_nil_right] at hz; cases hz⟩ (fun i σ H' _ p => hT _ p.1 p.2.1) (fun i x σ H0 H2 hi p y => ?_) fun σ H2 p => ?_
    · obtain ⟨b2, d2, ps, y3, y4, rfl, hl, hF, hz⟩ := p
      obtain ⟨rfl, hx⟩ := y
      rw [List.length_map] at hi
      have g1 : l[i]? = some l[i] := List.getElem?_eq_getElem hi
      have hm : l[i] ∈ l := List.getElem_mem hi
      rw [at_map (φ := fun x : Lk => V.ref x.1) g1 hx]
      have hr1 := hc.2 _ hm
      have hr2 := b2 _ _ (dice_ne hd hr1) hr1
      obtain ⟨n1, n2, n3, n4⟩ := o3 _ hm
      refine ⟨l[i].1, _, rfl, .inl (.inl hr2), rfl, _, _, rfl, _, _, rfl, rfl, ?_⟩
      -- found.append(v): whatever v is, of the right size
      have fin : ∀ (H3 : Hp) (v : Int), But a H2 H3 → isDice H3 a → 0 ≤ v → v < l[i].2.1 → ∃ lF xs y, V.ref F = V.ref lF ∧ [V.int v] = [y] ∧ H3 lF = some (.lst xs) ∧ xs.length < sizeLine ∧ (But a H (upd H3 lF (.lst (xs ++ [y]))) ∧ isDice (upd H3 lF (.lst (xs ++ [y]))) a ∧ ∃ (ps : List Int) (y3 y4 : Option V),
          [some (V.ref a), some (.ref c), some (.ref F), some (.int l[i].2.1), some (.int l[i].2.2)] = [some (.ref a), some (.ref c), some (.ref F), y3, y4] ∧ ps.length = i + 1 ∧ (upd H3 lF (.lst (xs ++ [y]))) F = some (.lst (ps.map V.int)) ∧ ∀ z ∈ l.zip ps, 0 ≤ z.2 ∧ z.2 < z.1.2.1) := fun H3 v b3 d3 v0 v1 => by
        have hF3 := b3 _ _ hFa hF
        refine ⟨F, _, _, rfl, rfl, hF3, by rw [List.length_map, sizeLine_eq]; omega, fun b o nb e => ?_, ?_, ps ++ [v], _, _, rfl, by rw [List.length_append, hl]; rfl, by rw [upd_same, List.map_append]; rfl, fun z hzm => ?_⟩
        · rw [upd_ne (ne_of_none e nF)]; exact b3 _ _ nb (b2 _ _ nb e)
        · obtain ⟨x, y, z, e⟩ := d3
          exact ⟨x, y, z, by rw [upd_ne (Ne.symm hFa)]; exact e⟩
        · have el : l = l.take i ++ l[i] :: l.drop (i + 1) := by rw [← List.drop_eq_getElem_cons hi, List.take_append_drop]
          have ez : l.zip (ps ++ [v]) = (l.take i).zip ps ++ [(l[i], v)] := by
            conv => lhs; rw [el]
            rw [List.zip_append (by rw [List.length_take]; omega), List.zip_cons_cons, List.zip_nil_right]
          have e2 : l.zip ps = (l.take i).zip ps := by
            conv => lhs; rw [el, show ps = ps ++ [] from (List.append_nil _).symm]
            rw [List.zip_append (by rw [List.length_take]; omega), List.zip_nil_right, List.append_nil]
          rw [ez] at hzm
          rcases List.mem_append.mp hzm with h | h
          · exact hz z (by rw [e2]; exact h)
          · rw [List.mem_singleton.mp h]; exact ⟨v0, v1⟩
      refine ⟨.ref F, rfl, .inl ⟨rfl, _, .inl (.inl hF)⟩, .ref a, rfl, a, 4, rfl, d2, by decide, by decide, fun H3 r b3 d3 r0 r1 => ⟨rfl, _, rfl, ite2 (fun z => ?_) (fun z => ?_)⟩⟩
      · exact ⟨.ref a, rfl, .int l[i].2.1, rfl, a, l[i].2.1, rfl, d3, by omega, by omega, fun H4 v b4 d4 v0 v1 => fin H4 v (but_trans b3 b4) d4 v0 v1⟩
      · exact ⟨.ref a, rfl, a, 5, rfl, d3, by decide, by decide, fun H4 v b4 d4 v0 v1 => ⟨v, 2, rfl, rfl, .int l[i].2.2, rfl, v - 2, l[i].2.2, rfl, rfl, .inl ⟨by omega, by omega⟩, .int l[i].2.1, rfl, _, l[i].2.1, rfl, rfl, (by omega : (0 : Int) < l[i].2.1), fin H4 _ (but_trans b3 b4) d4 (Int.emod_nonneg _ (by omega)) (Int.emod_lt_of_pos _ (by omega))⟩⟩
    · obtain ⟨b2, d2, ps, y3, y4, rfl, hl, hF, hz⟩ := p
      rw [List.length_map] at hl
      refine ⟨.ref F, rfl, F, _, rfl, .inl ⟨.inl (.inl hF), fun p np => ?_⟩⟩
      have sp := sm_new (o := .tup (ps.map V.int)) np
      exact q _ p ps (but_trans b2 (but_same sp)) (dice_same d2 sp) upd_same ⟨hl, hz⟩
end
end L2.Q67
namespace L2.Q67
open PySem PySem.Spec PyProof.Rows R67
/-! ### a dict of lists of ints -/
abbrev Ent := Addr × (Int × List Int)
abbrev entK (e : Ent) : Key × V := (Sum.inl e.2.1, V.ref e.1)
structure RU (H0 H : Hp) (M : Addr) (d : List Ent) : Prop where
  dict : H M = some (.dK (d.map entK))
  lst : ∀ e ∈ d, H e.1 = some (.lst (e.2.2.map V.int))
  nd : (d.map (·.1)).Nodup
  kd : (d.map (·.2.1)).Nodup
  new : ∀ e ∈ d, H0 e.1 = none
theorem RU.same {H0 H H' : Hp} {M : Addr} {d : List Ent} (r : RU H0 H M d) (s : Same H H') : RU H0 H' M d := ⟨s _ _ r.dict, fun e h => s _ _ (r.lst e h), r.nd, r.kd, r.new⟩
theorem nd_inj {α β : Type} {f : α → β} : ∀ {l : List α}, (l.map f).Nodup → ∀ {a b : α}, a ∈ l → b ∈ l → f a = f b → a = b
  | [], _, _, _, ha, _, _ => by cases ha
  | x :: l, hn, a, b, ha, hb, e => by
    rw [List.map_cons] at hn
    obtain ⟨h1, h2⟩ := List.nodup_cons.mp hn
    rcases List.mem_cons.mp ha with ea | ha
    · rcases List.mem_cons.mp hb with eb | hb
      · rw [ea, eb]
      · exact absurd (List.mem_map.mpr ⟨b, hb, by rw [← e, ea]⟩) h1
    · rcases List.mem_cons.mp hb with eb | hb
      · exact absurd (List.mem_map.mpr ⟨a, ha, by rw [e, eb]⟩) h1
      · exact nd_inj h2 ha hb e
def fnd (d : List Ent) (x : Int) : Option Ent := d.find? fun e => decide (e.2.1 = x)
theorem valV_ent : ∀ (d : List Ent) (x : Int), valV (d.map entK) (Sum.inl x) = (fnd d x).map fun e => V.ref e.1
  | [], _ => rfl
  | e :: d, x => by
    have ih := valV_ent d x
    unfold fnd at ih ⊢
    rw [List.map_cons, List.find?_cons]
    by_cases h : e.2.1 = x
    · rw [valV_pos (by show (Sum.inl e.2.1 : Key) = Sum.inl x; rw [h]), decide_eq_true h]; rfl
    · rw [valV_neg (by intro z; exact h (Sum.inl.inj z)), decide_eq_false h]; exact ih
theorem look_ent : ∀ (d : List Ent) (x : Int), look (d.map (·.2)) x = (fnd d x).map (·.2.2)
  | [], _ => rfl
  | e :: d, x => by
    have ih := look_ent d x
    unfold fnd look at ih ⊢
    rw [List.map_cons, List.find?_cons, List.find?_cons]
    by_cases h : e.2.1 = x
    · rw [decide_eq_true h]; rfl
    · rw [decide_eq_false h]; exact ih
theorem fnd_some {d : List Ent} {x : Int} {e : Ent} (h : fnd d x = some e) : e ∈ d ∧ e.2.1 = x := ⟨List.mem_of_find?_eq_some h, of_decide_eq_true (List.find?_some (p := fun e : Ent => decide (e.2.1 = x)) h)⟩
theorem fnd_none {d : List Ent} {x : Int} (h : fnd d x = none) : ∀ e ∈ d, ¬ e.2.1 = x := fun e he z => by
  have := List.find?_eq_none.mp h e he
  exact this (decide_eq_true z)
def bump (x c : Int) (e : Ent) : Ent := if e.2.1 = x then (e.1, (e.2.1, e.2.2 ++ [c])) else e
theorem bump_1 (x c : Int) (e : Ent) : (bump x c e).1 = e.1 ∧ (bump x c e).2.1 = e.2.1 := by unfold bump; split <;> exact ⟨rfl, rfl⟩
theorem ru_found {H0 H : Hp} {M : Addr} {d : List Ent} {x c : Int} {e0 : Ent} (r : RU H0 H M d) (h : fnd d x = some e0) :
    RU H0 (upd H e0.1 (.lst (e0.2.2.map V.int ++ [V.int c]))) M (d.map (bump x c)) ∧ (d.map (bump x c)).map (·.2) = addTo (d.map (·.2)) x c := by
  obtain ⟨hm, hx⟩ := fnd_some h
  have m1 : (d.map (bump x c)).map entK = d.map entK := by
    rw [List.map_map]
    refine List.map_congr_left fun e _ => ?_
    obtain ⟨b1, b2⟩ := bump_1 x c e
    show entK (bump x c e) = entK e
    unfold entK; rw [b1, b2]
  refine ⟨⟨?_, fun e he => ?_, ?_, ?_, fun e he => ?_⟩, ?_⟩
  · rw [m1, upd_ne (ne_of r.dict (r.lst e0 hm) (by intro z; cases z))]; exact r.dict
  · obtain ⟨e', he', rfl⟩ := List.mem_map.mp he
    by_cases hk : e'.2.1 = x
    · have ee : e' = e0 := nd_inj r.kd he' hm (hk.trans hx.symm)
      subst ee
      unfold bump; rw [if_pos hk]
      show upd H e'.1 _ e'.1 = _
      rw [upd_same, List.map_append]; rfl
    · have ne : e'.1 ≠ e0.1 := fun z => hk (by rw [nd_inj r.nd he' hm z]; exact hx)
      unfold bump; rw [if_neg hk, upd_ne ne]; exact r.lst e' he'
  · rw [List.map_map, show ((fun e : Ent => e.1) ∘ bump x c) = (fun e : Ent => e.1) from funext fun e => (bump_1 x c e).1]; exact r.nd
  · rw [List.map_map, show ((fun e : Ent => e.2.1) ∘ bump x c) = (fun e : Ent => e.2.1) from funext fun e => (bump_1 x c e).2]; exact r.kd
  · obtain ⟨e', he', rfl⟩ := List.mem_map.mp he
    rw [(bump_1 x c e').1]; exact r.new e' he'
  · unfold addTo
    rw [look_ent, h]
    show _ = List.map _ (d.map (·.2))
    rw [List.map_map, List.map_map]
    refine List.map_congr_left fun e _ => ?_
    show (bump x c e).2 = if e.2.1 = x then (e.2.1, e.2.2 ++ [c]) else e.2
    unfold bump; split <;> rfl
theorem ru_new {H0 H H' : Hp} {M t : Addr} {d : List Ent} {x c : Int} (r : RU H0 H M d) (h : fnd d x = none) (s : Same H0 H) (nt : H t = none) (hM : H' M = some (.dK (d.map entK ++ [(Sum.inl x, V.ref t)]))) (ht : H' t = some (.lst [V.int c])) (hk : ∀ b o, b ≠ M → H b = some o → H' b = some o) :
    RU H0 H' M (d ++ [(t, (x, [c]))]) ∧ (d ++ [(t, (x, [c]))]).map (·.2) = addTo (d.map (·.2)) x c := by
  refine ⟨⟨by rw [List.map_append]; exact hM, fun e he => ?_, ?_, ?_, fun e he => ?_⟩, ?_⟩
  · rcases List.mem_append.mp he with he | he
    · exact hk _ _ (ne_of (r.lst e he) r.dict (by intro z; cases z)) (r.lst e he)
    · rw [List.mem_singleton.mp he]; exact ht
  · rw [List.map_append]
    refine List.nodup_append.mpr ⟨r.nd, by simp, fun a ha b hb => ?_⟩
    obtain ⟨e, he, rfl⟩ := List.mem_map.mp ha
    rw [List.mem_singleton.mp hb]
    exact ne_of_none (r.lst e he) nt
  · rw [List.map_append]
    refine List.nodup_append.mpr ⟨r.kd, by simp, fun a ha b hb => ?_⟩
    obtain ⟨e, he, rfl⟩ := List.mem_map.mp ha
    rw [List.mem_singleton.mp hb]
    exact fnd_none h e he
  · rcases List.mem_append.mp he with he | he
    · exact r.new e he
    · rw [List.mem_singleton.mp he]; exact s.free nt
  · unfold addTo
    rw [look_ent, h, List.map_append]; rfl
theorem at_in {h : Hg} {c : Int} (h0 : 0 ≤ c) (h1 : c < h.length) : atI (h.map V.int) c = some (.int (gz h c)) := by
  obtain ⟨k, rfl⟩ : ∃ k : Nat, c = k := ⟨c.toNat, by omega⟩
  refine atI_nat ?_
  unfold gz
  rw [Int.toNat_natCast, List.getD_eq_getElem?_getD, List.getElem?_map, List.getElem?_eq_getElem (by omega)]; rfl
theorem gz_out {h : Hg} {c : Int} (h1 : (h.length : Int) ≤ c) : gz h c = 0 := by
  unfold gz
  rw [List.getD_eq_getElem?_getD, List.getElem?_eq_none (by omega)]; rfl
def spRests : Sp := fun vs H Q _ => ∃ (a : Addr) (k : Int) (h : Hg), vs = [.ref a, .int k] ∧ H a = some (.tup (h.map V.int)) ∧ h.length ≤ 60 ∧ 0 < k ∧ ∀ H' M d, Same H H' → RU H H' M d → d.map (·.2) = rests h k → Q (.ref M) H'
abbrev sLrests_up : Stmt := topS 57
theorem scLrests_up : FnScope ["_law_heap", "_law_k", "_law_found", "_law_column", "_law_height"] ["_law_heap", "_law_k"] (defScope sLrests_up) := ⟨rfl, rfl, rfl, by decide +kernel, rfl, by decide +kernel, by decide +kernel⟩

theorem restStep_len (k : Int) (h : Hg) (d : List (Int × List Int)) (c : Int) : (restStep k h d c).length ≤ d.length + 1 := by
  unfold restStep
  split
  · unfold addTo
    split
    · rw [List.length_map]; omega
    · rw [List.length_append]; exact Nat.le_refl _
  · omega
theorem restFold_len (k : Int) (h : Hg) : ∀ (cs : List Int) (d : List (Int × List Int)), (cs.foldl (restStep k h) d).length ≤ d.length + cs.length
  | [], d => Nat.le_refl _
  | c :: cs, d => by
    rw [List.foldl_cons, List.length_cons]
    have := restFold_len k h cs (restStep k h d c)
    have := restStep_len k h d c
    omega
theorem restStep_w {k : Int} {h : Hg} {d : List (Int × List Int)} {c : Int} {n : Nat} (hd : ∀ e ∈ d, e.2.length ≤ n) : ∀ e ∈ restStep k h d c, e.2.length ≤ n + 1 := by
  unfold restStep
  split
  · unfold addTo
    split
    · intro e he
      obtain ⟨e', he', rfl⟩ := List.mem_map.mp he
      have := hd e' he'
      split
      · show (e'.2 ++ [c]).length ≤ n + 1
        rw [List.length_append]; show e'.2.length + 1 ≤ n + 1; omega
      · omega
    · intro e he
      rcases List.mem_append.mp he with he | he
      · have := hd e he; omega
      · rw [List.mem_singleton.mp he]; show 1 ≤ n + 1; omega
  · intro e he
    have := hd e he; omega
theorem restFold_w {k : Int} {h : Hg} : ∀ {cs : List Int} {d : List (Int × List Int)} {n : Nat}, (∀ e ∈ d, e.2.length ≤ n) → ∀ e ∈ cs.foldl (restStep k h) d, e.2.length ≤ n + cs.length
  | [], d, n, hd => hd
  | c :: cs, d, n, hd => by
    intro e he
    rw [List.foldl_cons] at he
    have := restFold_w (restStep_w hd) e he
    rw [List.length_cons]; omega
theorem te_of {te : TE} {σ : St} {H : Hp} {Q : V → Hp → Prop} (v : V) (h : ∀ Q' : V → Hp → Prop, Q' v H → te σ H Q') (q : Q v H) : te σ H Q := h Q q
theorem tt_of {tt : TT} {σ : St} {H : Hp} {Q : Bool → Hp → Prop} (b : Bool) (h : ∀ Q' : Bool → Hp → Prop, Q' b H → tt σ H Q') (q : Q b H) : tt σ H Q := h Q q
section
variable {P : Program} {w : World} {K : PySem.W.Frag} {mg : Str → Option Value} {base : Heap}
theorem ok_rests (B : Bi mg) (D : Here K mg "_law_rests_up" sLrests_up ["_law_heap", "_law_k"]) : Ok P w K mg base 1 "_law_rests_up" ["_law_heap", "_law_k"] spRests := by
  refine D.ok scLrests_up (fun vs H Q E h => ?_) (fun f cdv A outer s H vs Q E hr h => ?_)
  · obtain ⟨a, k, h, rfl, _⟩ := h; rfl
  · obtain ⟨a, k, h, rfl, ha, hl, hk, q⟩ := h
    have hT : SqT K H a (h.map V.int) := .inl (.inl ha)
    refine ⟨_, (pss_cons (ps_set (i := 2) scLrests_up.nd rfl (.inl rfl) pe_dnewK)
      (pss_cons (ps_for PassesOwn.never rfl (pi_range1 rfl B.range (pa_cons (pe_op op_add (pe_callB (kLen K) (by rfl) B.len PySem.boot_len (pa_cons (pv 0) pa_nil)) pe_int) pa_nil)) (pg_name (i := 3) scLrests_up.nd rfl (by first | exact Or.inl rfl | exact Or.inr rfl))
        (pss_cons (ps_set (i := 4) scLrests_up.nd rfl (.inl rfl) (pe_ifExp (pt_cmpR op_lt (pv 3) (pe_callB (kLen K) (by rfl) B.len PySem.boot_len (pa_cons (pv 0) pa_nil)) (nomark _)) (pe_ix (kIxT K) (pv 0) (pv 3) (fun _ _ => rfl)) pe_int))
      (pss_one (ps_if (PW.pt (pw_or (pt_cmpR op_eq (pv 3) pe_int (nomark _)) (pw_or1 (pt_cmpR op_gt (pe_ix (kIxT K) (pv 0) (pe_op op_sub (pv 3) pe_int) (fun _ _ => rfl)) (pv 4) (nomark _))))) (pss_one (ps_expr (pe_bm PySem.F.plainAttrs_list PySem.F.slot_list_append PySem.F.type_list_append mt_append (pe_dsetd (pv 2) (pe_op op_mod (pe_op op_sub (pv 3) (pv 4)) (pv 1)) (pe_lst pa_nil) ⟨rfl, rfl, rfl, rfl⟩) (pa_cons (pv 3) pa_nil)))) pss_nil))))
      (pss_one (ps_ret (pv 2))))), ?_⟩
    refine fun M nM => ?_
    have sM := sm_new (o := .dK []) nM
    refine ⟨.ref a, rfl, a, _, rfl, .inr (sm_tup sM hT), _, 1, rfl, rfl, _, rfl, by rw [List.length_map]; omega, by rw [List.length_map]; omega, ?_⟩
    have en : (((h.map V.int).length : Int) + 1).toNat = h.length + 1 := by rw [List.length_map]; omega
    rw [en]
    refine for_it (walk_range (lo := 0) (n := h.length + 1)) (fun i σ H' => Same H H' ∧ ∃ (d : List Ent) (y3 y4 : Option V), σ = [some (.ref a), some (.int k), some (.ref M), y3, y4] ∧ RU H H' M d ∧ d.map (·.2) = ((ups h.length).take i).foldl (restStep k h) [])
      ⟨sM, [], none, none, rfl, ⟨upd_same, fun e he => by (cases he), List.nodup_nil, List.nodup_nil, fun e he => by (cases he)⟩, rfl⟩ (fun _ _ _ _ _ => trivial) (fun i x σ H0 H2 hi p y => ?_) fun σ H2 p => ?_
    · obtain ⟨s2, d, y3, y4, rfl, ru, hd⟩ := p
      obtain ⟨rfl, rfl⟩ := y
      obtain ⟨c, hc⟩ : ∃ c : Int, c = 0 + (i : Nat) := ⟨_, rfl⟩
      have gi : (ups h.length)[i]? = some c := by
        unfold ups
        rw [List.getElem?_map, List.getElem?_range hi, hc]; rfl
      have et : (ups h.length).take (i + 1) = (ups h.length).take i ++ [c] := by rw [List.take_add_one, gi]; rfl
      have dl : d.length ≤ 61 := by
        have z := congrArg List.length hd
        rw [List.length_map] at z
        have y := restFold_len k h ((ups h.length).take i) []
        rw [List.length_take, List.length_nil] at y
        omega
      have dw : ∀ e ∈ d, e.2.2.length ≤ 61 := fun e he => by
        have m : e.2 ∈ ((ups h.length).take i).foldl (restStep k h) [] := by rw [← hd]; exact List.mem_map.mpr ⟨e, he, rfl⟩
        have z := restFold_w (n := 0) (fun e he => by cases he) _ m
        rw [List.length_take] at z; omega
      rw [et, List.foldl_append]
      rw [← hd]
      dsimp only
      rw [← hc]
      clear et gi hd
      have hT2 : SqT K H2 a (h.map V.int) := sm_tup s2 hT
      have c0 : 0 ≤ c := by omega
      have c1 : c ≤ h.length := by omega
      refine (?_ : tIf _ _ _ _ _ _)
      refine te_of (.int (gz h c)) (fun Q' q' => ?_) ?_
      · refine ⟨.int c, rfl, .ref a, rfl, a, _, rfl, .inr hT2, _, _, rfl, rfl, _, rfl, ite2 (fun z => ?_) (fun z => ?_)⟩
        · have z := of_decide_eq_true z
          rw [List.length_map] at z
          exact ⟨.ref a, rfl, .int c, rfl, a, _, c, _, rfl, rfl, hT2, at_in c0 z, q'⟩
        · have z : ¬ (c < ((h.map V.int).length : Int)) := fun y => z (decide_eq_true y)
          rw [List.length_map] at z
          rw [gz_out (by omega)] at q'; exact q'
      dsimp only [gName, tIfS]
      refine tt_of (isTop h c) (fun Q' q' => ?_) ?_
      · refine ⟨.int c, rfl, rfl, _, rfl, ite2 (fun z => ?_) (fun z => ?_)⟩
        · have z : c = 0 := V.int.inj (of_decide_eq_true z)
          have e : isTop h c = true := by unfold isTop; rw [decide_eq_true z]; rfl
          rw [e] at q'; exact q'
        · have z : ¬ c = 0 := fun y => z (decide_eq_true (by rw [y]))
          refine ⟨.ref a, rfl, .int c, rfl, c, 1, rfl, rfl, a, _, c - 1, _, rfl, rfl, hT2, at_in (by omega) (by omega), .int (gz h c), rfl, _, _, rfl, rfl, _, rfl, ?_⟩
          have e : isTop h c = decide (gz h c < gz h (c - 1)) := by unfold isTop; rw [decide_eq_false z]; rfl
          rw [e] at q'; exact q'
      rw [List.foldl_cons, List.foldl_nil]
      unfold restStep
      refine ite2 (fun z => ?_) (fun z => ?_)
      · rw [if_pos z]
        refine ⟨.ref M, rfl, M, rfl, .inl ⟨_, .inl ru.dict⟩, .int c, rfl, .int (gz h c), rfl, c, gz h c, rfl, rfl, .int k, rfl, c - gz h c, k, rfl, rfl, hk, Nat.zero_le _, fun t nt => ?_⟩
        have st := sm_new (o := .lst []) nt
        refine ⟨d.map entK, Sum.inl ((c - gz h c) % k), st _ _ ru.dict, rfl, by rw [List.length_map, sizeLine_eq]; omega, fun v hv => ?_, fun hv => ?_⟩
        · rw [valV_ent] at hv
          cases hf : fnd d ((c - gz h c) % k) with
          | none => rw [hf] at hv; cases hv
          | some e0 =>
            rw [hf] at hv
            obtain rfl : V.ref e0.1 = v := Option.some.inj hv
            obtain ⟨r1, r2⟩ := ru_found (c := c) (ru.same st) hf
            have hm := (fnd_some hf).1
            refine ⟨.inl ⟨rfl, _, .inl (.inl ((ru.same st).lst _ hm))⟩, .int c, rfl, e0.1, _, _, rfl, rfl, (ru.same st).lst _ hm, ?_, sm_grow (s2.trans st) (ru.new _ hm), _, _, _, rfl, r1, r2⟩
            rw [List.length_map]
            have := dw _ hm
            rw [sizeLine_eq]; omega
        · have hf : fnd d ((c - gz h c) % k) = none := by
            cases hf : fnd d ((c - gz h c) % k) with
            | none => rfl
            | some e0 => rw [valV_ent, hf] at hv; cases hv
          have nM2 : M ≠ t := ne_of_none ru.dict nt
          rw [putK_new _ hv]
          have ht2 : (upd (upd H2 t (.lst [])) M (.dK (d.map entK ++ [(Sum.inl ((c - gz h c) % k), V.ref t)]))) t = some (.lst []) := by rw [upd_ne (Ne.symm nM2), upd_same]
          have sM2 : Same H (upd (upd (upd H2 t (.lst [])) M (.dK (d.map entK ++ [(Sum.inl ((c - gz h c) % k), V.ref t)]))) t (.lst ([] ++ [V.int c]))) := fun b o e => by
            have e2 := s2 _ _ e
            rw [upd_ne (ne_of_none e2 nt), upd_ne (ne_of_none e nM), upd_ne (ne_of_none e2 nt)]; exact e2
          obtain ⟨r1, r2⟩ := ru_new (H' := upd (upd (upd H2 t (.lst [])) M (.dK (d.map entK ++ [(Sum.inl ((c - gz h c) % k), V.ref t)]))) t (.lst ([] ++ [V.int c]))) (c := c) ru hf s2 nt (by rw [upd_ne nM2, upd_same]) upd_same (fun b o nb e => by rw [upd_ne (ne_of_none e nt), upd_ne nb, upd_ne (ne_of_none e nt)]; exact e)
          exact ⟨.inl ⟨rfl, _, .inl (.inl ht2)⟩, .int c, rfl, t, _, _, rfl, rfl, ht2, Nat.zero_lt_succ _, sM2, _, _, _, rfl, r1, r2⟩
      · rw [if_neg z]
        exact ⟨s2, _, _, _, rfl, ru, rfl⟩
    · obtain ⟨s2, d, y3, y4, rfl, ru, hd⟩ := p
      rw [List.take_of_length_le (by unfold ups; rw [List.length_map, List.length_range]; exact Nat.le_refl _)] at hd
      exact ⟨.ref M, rfl, q _ M d s2 ru hd⟩
end
end L2.Q67
namespace L2.Q67
open PySem PySem.Spec PyProof.Rows R67
def spBehind : Sp := fun vs H Q _ => ∃ (a : Addr) (k l : Int) (h : Hg), vs = [.ref a, .int k, .int l] ∧ H a = some (.tup (h.map V.int)) ∧ h.length ≤ 60 ∧ 0 < k ∧ ∀ H' p, Same H H' → H' p = some (.tup ((behind h k l).map V.int)) → Q (.ref p) H'
def spLHolds : Sp := fun vs H Q _ => ∃ (a b : Addr) (x y : Hg), vs = [.ref a, .ref b] ∧ H a = some (.tup (x.map V.int)) ∧ H b = some (.tup (y.map V.int)) ∧ y.length ≤ 4000 ∧ ∀ H', Same H H' → Q (.bl (lawHolds x y)) H'
abbrev sLbehind : Stmt := topS 58
theorem scLbehind : FnScope ["_law_heap", "_law_k", "_law_letter", "_law_chosen", "_law_heights", "_law_found", "_law_column", "_law_height"] ["_law_heap", "_law_k", "_law_letter"] (defScope sLbehind) := ⟨rfl, rfl, rfl, by decide +kernel, rfl, by decide +kernel, by decide +kernel⟩

abbrev sLholds : Stmt := topS 59
theorem scLholds : FnScope ["_law_heap", "_law_other", "_law_low", "_law_high"] ["_law_heap", "_law_other"] (defScope sLholds) := ⟨rfl, rfl, rfl, by decide +kernel, rfl, by decide +kernel, by decide +kernel⟩

/-- [1 for ..]: how many -/
theorem ones_eq (n : Nat) : (List.replicate n (V.int 1)) = (List.replicate n (1 : Int)).map V.int := by rw [List.map_replicate]
theorem map_one {γ : Type} : ∀ l : List γ, (l.map fun _ => V.int 1) = (l.map fun _ => (1 : Int)).map V.int := fun l => by rw [List.map_map]; rfl
theorem eqv_none {γ : Type} (l : List γ) : PyData.eqv (.list ((l.map fun _ => (1 : Int)).map PyData.int)) (.list (([] : Hg).map PyData.int)) = l.isEmpty := by
  rw [PyData.eqv, eqv_ints]
  cases l with
  | nil => rfl
  | cons x r => rfl
theorem shp_ints (c : Hg) : SeqAt.shaped (.list (c.map PyData.int)) = true := by
  unfold SeqAt.shaped; rw [PyData.canLay0, lay_ints, PyData.depth, dep_ints]; rfl
section
variable {P : Program} {w : World} {K : PySem.W.Frag} {mg : Str → Option Value} {base : Heap}
theorem ok_behind (B : Bi mg) (D : Here K mg "_law_behind" sLbehind ["_law_heap", "_law_k", "_law_letter"]) (d__law_rests_up : Ok P w K mg base 1 "_law_rests_up" ["_law_heap", "_law_k"] spRests) : Ok P w K mg base 2 "_law_behind" ["_law_heap", "_law_k", "_law_letter"] spBehind := by
  refine D.ok scLbehind (fun vs H Q E h => ?_) (fun f cdv A outer s H vs Q E hr h => ?_)
  · obtain ⟨a, k, l, h, rfl, _⟩ := h; rfl
  · obtain ⟨a, k, l, h, rfl, ha, hl, hk, q⟩ := h
    refine ⟨_, (pss_cons (ps_set (i := 3) scLbehind.nd rfl (.inr rfl) (pe_dget2 (hu_of hr) (pe_own d__law_rests_up hr (pa_cons (pv 0) (pa_cons (pv 1) pa_nil))) (pv 2) (pe_lst pa_nil) ⟨rfl, rfl, rfl, rfl⟩))
      (pss_cons (ps_set (i := 4) scLbehind.nd rfl (.inl rfl) (pe_op op_cat (pe_callTy (kListOf K) (by rfl) B.list bt_list (pa_cons (pv 0) pa_nil)) (pe_lst (pa_cons pe_int pa_nil))))
      (pss_cons (ps_setLc (i := 5) (own := [("_law_column", 6), ("_law_height", 7)]) rfl scLbehind.nd rfl rfl (sw_true rfl rfl rfl (by decide +kernel)) (pi_enum (by rfl) B.enumerate (pa_cons (pv 4) pa_nil)) (blkOk_by (N := ["_law_heap", "_law_k", "_law_letter", "_law_chosen", "_law_heights", "_law_found", "_law_column", "_law_height"]) (sc := defScope sLbehind) (by decide +kernel)) (fun _ _ _ _ _ => (pg_tupK (n := 2) K rfl (pgs_cons (pg_name (i := 6) scLbehind.nd rfl (by first | exact Or.inl rfl | exact Or.inr rfl)) (pgs_cons (pg_name (i := 7) scLbehind.nd rfl (by first | exact Or.inl rfl | exact Or.inr rfl)) pgs_nil)))) (fun _ _ _ _ _ => pts_nil) (fun _ _ _ _ _ => (pe_op op_add (pv 7) (pe_callTy call_int1 (by rfl) B.int bt_int (pa_cons (pe_cmpR (kInS K) (pv 6) (pv 3) (by rfl)) pa_nil)))))
      (pss_one (ps_ret (pe_callTy (kTupOf K) (by rfl) B.tuple bt_tuple (pa_cons (pe_lc (own := [("_law_height", 7)]) rfl scLbehind.nd (pi_listK K (pv 5)) (blkOk_by (N := ["_law_heap", "_law_k", "_law_letter", "_law_chosen", "_law_heights", "_law_found", "_law_column", "_law_height"]) (sc := defScope sLbehind) (by decide +kernel)) (fun _ _ _ _ _ => (pg_name (i := 7) scLbehind.nd rfl (by first | exact Or.inl rfl | exact Or.inr rfl))) (fun _ _ _ _ _ => (pts_one (pt_cmpR op_gt (pv 7) pe_int (nomark _)))) (fun _ _ _ _ _ => (pv 7))) pa_nil))))))), ?_⟩
    refine ⟨.ref a, rfl, .int k, rfl, a, k, h, rfl, ha, hl, hk, fun H1 M d s1 ru hd => ⟨M, rfl, .inl ⟨_, .inl ru.dict⟩, .int l, rfl, Nat.zero_le _, fun t nt => ?_⟩⟩
    have st := sm_new (o := .lst []) nt
    refine ⟨valV (d.map entK) (Sum.inl l), .inl ⟨_, Sum.inl l, .inl (st _ _ ru.dict), rfl, rfl⟩, ?_⟩
    have pick : ∃ cb, (valV (d.map entK) (Sum.inl l)).getD (.ref t) = .ref cb ∧ (upd H1 t (.lst [])) cb = some (.lst (((look (rests h k) l).getD []).map V.int)) := by
      rw [valV_ent, ← hd, look_ent]
      cases hf : fnd d l with
      | none => exact ⟨t, rfl, upd_same⟩
      | some e => exact ⟨e.1, rfl, st _ _ (ru.lst e (fnd_some hf).1)⟩
    obtain ⟨cb, ec, hcb⟩ := pick
    rw [ec]
    have eb : behind h k l = risen h ((look (rests h k) l).getD []) := rfl
    rw [eb] at q
    generalize (look (rests h k) l).getD [] = cols at hcb q
    have sT := s1.trans st
    have ha1 := sT _ _ ha
    revert ha1 hcb sT
    generalize upd H1 t (.lst []) = H2
    intro hcb ha1 sT
    refine ⟨.ref a, rfl, a, _, rfl, .inr (.inl (.inl sT)), fun p np => ⟨by show 1 ≤ sizeLine; decide, fun p2 np2 => ?_⟩⟩
    have sp := sm_new (o := .lst (h.map V.int)) np
    have sp2 := sm_new (o := .lst [V.int 0]) np2
    refine ⟨p, p2, _, _, rfl, rfl, sp2 _ _ upd_same, upd_same, ?_, fun p3 np3 => ?_⟩
    · rw [List.length_map, sizeLine_eq]; show h.length + 1 ≤ _; omega
    have sp3 := sm_new (o := .lst (h.map V.int ++ [V.int 0])) np3
    have hlen : (h ++ [0]).length ≤ 4000 := by rw [List.length_append, List.length_singleton]; omega
    have hp : SqL K (upd (upd (upd H2 p (.lst (h.map V.int))) p2 (.lst [V.int 0])) p3 (.lst (h.map V.int ++ [V.int 0]))) p3 ((h ++ [0]).map V.int) := .inl (.inl (by rw [List.map_append]; exact upd_same))
    refine ⟨.ref p3, rfl, p3, _, rfl, hp, fun L nL => ?_⟩
    have w1 := walk_enum (K := K) (a := p3) (xs := (h ++ [0]).map V.int)
    rw [List.length_map] at w1
    refine lc_ew (h ++ [0]) w1 (fun p => some (.int (p.2 + b2 (cols.contains p.1)))) nL hlen (fun H s => s.seq hp) (fun i x T H3 P1 P0 ec s2 hT2 k1 k0 => ?_) fun H3 s3 e3 => ?_
    · have hB : SqL K H3 cb (cols.map V.int) := .inl (.inl (s2 _ _ (sp3 _ _ (sp2 _ _ (sp _ _ hcb)))))
      refine ⟨T, _, rfl, .inl (.inl hT2), rfl, _, _, rfl, _, _, rfl, rfl, rfl, lc_yes ?_⟩
      refine ⟨.int x, rfl, .int i, rfl, .ref cb, rfl, cb, _, rfl, .inl hB, rfl, flat_ints cols, .inr ⟨_, rfl, x, _, rfl, rfl, ?_⟩⟩
      have e : (if (if false = true then !inV (.int (i : Nat)) (cols.map V.int) else inV (.int (i : Nat)) (cols.map V.int)) = true then (1 : Int) else 0) = b2 (cols.contains ((i : Nat) : Int)) := by
        rw [if_neg Bool.false_ne_true, in_ints]; rfl
      rw [e]
      exact k1 _ _ rfl (Same.refl _)
    · rw [fm_some] at e3
      have hL : SqL K H3 L (((enumI 0 (h ++ [0])).map fun p => p.2 + b2 (cols.contains p.1)).map V.int) := .inl (.inl (by rw [e3, List.map_map]; rfl))
      refine ⟨.ref L, rfl, L, rfl, ⟨_, hL⟩, fun L2 nL2 => ?_⟩
      have el : ((enumI 0 (h ++ [0])).map fun p => p.2 + b2 (cols.contains p.1)).length ≤ 4000 := by rw [List.length_map, enumI_len]; exact hlen
      refine lc_l V.int _ (fun x => if pos x = true then some (.int x) else none) nL2 el hL (fun i x H4 P1 P0 e s4 k1 k0 => ?_) fun H5 s5 e5 => ?_
      · refine ⟨rfl, .int x, rfl, x, 0, rfl, rfl, _, rfl, ite2 (fun z => ?_) (fun z => ?_)⟩
        · exact ⟨.int x, rfl, k1 _ _ (if_pos z) (Same.refl _)⟩
        · exact k0 _ (if_neg z) (Same.refl _)
      · refine ⟨L2, _, rfl, .inl ⟨.inl (.inl e5), fun t nt => ?_⟩⟩
        refine q _ _ (ha1.trans (sp.trans (sp2.trans (sp3.trans (s3.trans (s5.trans (sm_new nt))))))) ?_
        rw [upd_same, fm_if]; rfl
theorem ok_lholds (B : Bi mg) (D : Here K mg "_law_holds" sLholds ["_law_heap", "_law_other"]) : Ok P w K mg base 1 "_law_holds" ["_law_heap", "_law_other"] spLHolds := by
  refine D.ok scLholds (fun vs H Q E h => ?_) (fun f cdv A outer s H vs Q E hr h => ?_)
  · obtain ⟨a, b, x, y, rfl, _⟩ := h; rfl
  · obtain ⟨a, b, x, y, rfl, ha, hb, hl, q⟩ := h
    have hT : SqT K H a (x.map V.int) := .inl (.inl ha)
    have hU : SqT K H b (y.map V.int) := .inl (.inl hb)
    refine ⟨_, (pss_one (ps_ret (pe_and (pe_cmpR op_le (pe_callB (kLen K) (by rfl) B.len PySem.boot_len (pa_cons (pv 1) pa_nil)) (pe_callB (kLen K) (by rfl) B.len PySem.boot_len (pa_cons (pv 0) pa_nil)) (nomark _)) (pe_one (pe_cmpR (kEqD K hr.units) (pe_lc (own := [("_law_low", 2), ("_law_high", 3)]) rfl scLholds.nd (RZ.pi_zipA (by rfl) B.zip (pa_cons (pv 1) (pa_cons (pv 0) pa_nil))) (blkOk_by (N := ["_law_heap", "_law_other", "_law_low", "_law_high"]) (sc := defScope sLholds) (by decide +kernel)) (fun _ _ _ _ _ => (pg_tupK (n := 2) K rfl (pgs_cons (pg_name (i := 2) scLholds.nd rfl (by first | exact Or.inl rfl | exact Or.inr rfl)) (pgs_cons (pg_name (i := 3) scLholds.nd rfl (by first | exact Or.inl rfl | exact Or.inr rfl)) pgs_nil)))) (fun _ _ _ _ _ => (pts_one (pt_cmpR op_gt (pv 2) (pv 3) (nomark _)))) (fun _ _ _ _ _ => pe_int)) (pe_lst pa_nil) (nomark _)))))), ?_⟩
    refine ⟨.ref b, rfl, b, _, rfl, .inr hU, .ref a, rfl, a, _, rfl, .inr hT, _, _, rfl, rfl, _, rfl, ?_⟩
    rw [List.length_map, List.length_map]
    refine ite2 (fun c => ?_) (fun c => ?_)
    · have hc : y.length ≤ x.length := by have := of_decide_eq_true c; omega
      refine ⟨.ref b, rfl, .ref a, rfl, b, a, _, _, rfl, .inr ⟨hU, hT, fun D nD => ?_⟩⟩
      refine lc_z V.int V.int y x (fun q => if decide (q.2 < q.1) = true then some (.int 1) else none) nD hl hU hT (fun i c d T H2 P1 P0 e1 e2 s2 hT2 k1 k0 => ?_) fun H5 s5 e5 => ?_
      · refine ⟨T, _, rfl, .inl (.inl hT2), rfl, _, _, rfl, _, _, rfl, rfl, rfl, .int c, rfl, .int d, rfl, c, d, rfl, rfl, _, rfl, ite2 (fun z => ?_) (fun z => ?_)⟩
        · exact k1 _ _ (if_pos z) (Same.refl _)
        · exact k0 _ (if_neg z) (Same.refl _)
      · rw [fm_if (fun q : Int × Int => decide (q.2 < q.1)) (fun _ => V.int 1) (y.zip x), map_one] at e5
        refine ⟨Nat.zero_le _, fun E nE => ?_⟩
        have sE := sm_new (o := .lst []) nE
        refine ⟨_, .list (([] : Hg).map PyData.int), .lst (.inl (.inl (sE _ _ e5))) (dp_ints _), .lst (.inl (.inl upd_same)) (dp_ints []), shp_ints _, shp_ints [], ?_⟩
        rw [eqv_none]
        have e : lawHolds x y = ((y.zip x).filter fun p => decide (p.2 < p.1)).isEmpty := by unfold lawHolds; rw [decide_eq_true hc, Bool.true_and]
        rw [← e]; exact q _ (s5.trans sE)
    · have hc : ¬ y.length ≤ x.length := fun z => c (decide_eq_true (by omega))
      have e : lawHolds x y = false := by unfold lawHolds; rw [decide_eq_false hc, Bool.false_and]
      rw [← e]; exact q _ (Same.refl _)
end
end L2.Q67
namespace R67
def lay (k : Int) : Nat → List Hg
  | 0 => [[]]
  | n + 1 => nextLayer k (lay k n)
theorem layers_snoc (k : Int) : ∀ n, ∃ pre, layers k n = pre ++ [lay k n]
  | 0 => ⟨[], rfl⟩
  | n + 1 => by
    obtain ⟨pre, e⟩ := layers_snoc k n
    refine ⟨layers k n, ?_⟩
    show layers k n ++ [nextLayer k ((layers k n).getLastD [])] = _
    rw [show (layers k n).getLastD [] = lay k n by rw [e]; simp]
    rfl
theorem layers_succ (k : Int) (n : Nat) : layers k (n + 1) = layers k n ++ [lay k (n + 1)] := by
  obtain ⟨pre, e⟩ := layers_snoc k n
  show layers k n ++ [nextLayer k ((layers k n).getLastD [])] = _
  rw [show (layers k n).getLastD [] = lay k n by rw [e]; simp]
  rfl
theorem layers_mem (k : Int) : ∀ n, ∀ cs ∈ layers k n, ∃ j, j ≤ n ∧ cs = lay k j
  | 0, cs, h => ⟨0, Nat.le_refl _, List.mem_singleton.mp h⟩
  | n + 1, cs, h => by
    rw [layers_succ] at h
    rcases List.mem_append.mp h with h | h
    · obtain ⟨j, hj, e⟩ := layers_mem k n cs h
      exact ⟨j, by omega, e⟩
    · exact ⟨n + 1, Nat.le_refl _, List.mem_singleton.mp h⟩
theorem layers_len (k : Int) : ∀ n, (layers k n).length = n + 1
  | 0 => rfl
  | n + 1 => by rw [layers_succ, List.length_append, layers_len k n]; rfl
def fur (k : Int) (cs : List Hg) : List Hg := cs.foldl (layerStep k) []
structure LayOk (k : Int) (n : Nat) : Prop where
  pos : 0 < k
  n16 : n ≤ 16
  sz : ∀ j, j ≤ n → (lay k j).length ≤ 60 ∧ ∀ c ∈ lay k j, c.length ≤ 60
  ne : ∀ j, j < n → ∀ c ∈ lay k (j + 1), c ≠ []
structure DueOk (k : Int) (whole : Hg) (n : Nat) : Prop where
  ly : LayOk k n
  wl : whole.length ≤ 60
  ne : ∀ c ∈ due k whole n, c ≠ []
end R67
namespace L2.Q67
open PySem PySem.Spec PyProof.Rows R67
abbrev Lr := Addr × List V × List Hg
/-- a list of layers: each a list of tuples -/
structure Lays (H : Hp) (O : Addr) (ps : List Lr) : Prop where
  top : H O = some (.lst (ps.map fun p => V.ref p.1))
  each : ∀ p ∈ ps, H p.1 = some (.lst p.2.1) ∧ Cores H p.2.1 p.2.2
  ne : ∀ p ∈ ps, p.1 ≠ O
theorem Cores.keep {H H' : Hp} {xs : List V} {cs : List Hg} (h : Cores H xs cs) (k : ∀ b ys, H b = some (.tup ys) → H' b = some (.tup ys)) : Cores H' xs cs := paired_mono (fun x c q => by
  obtain ⟨t, e, ht⟩ := q
  exact ⟨t, e, k _ _ ht⟩) h
theorem Lays.keep {H H' : Hp} {O : Addr} {ps : List Lr} (L : Lays H O ps) (ko : ∀ o, H O = some o → H' O = some o) (kl : ∀ p ∈ ps, ∀ o, H p.1 = some o → H' p.1 = some o) (kt : ∀ b ys, H b = some (.tup ys) → H' b = some (.tup ys)) : Lays H' O ps :=
  ⟨ko _ L.top, fun p hp => ⟨kl p hp _ (L.each p hp).1, Cores.keep (L.each p hp).2 kt⟩, L.ne⟩
theorem Lays.same {H H' : Hp} {O : Addr} {ps : List Lr} (L : Lays H O ps) (s : Same H H') : Lays H' O ps := L.keep (s _) (fun p _ => s _) fun b ys => s _ _
theorem Lays.dict {H : Hp} {O M : Addr} {ps : List Lr} {o : HO} {kvs : List (List Key × V)} (L : Lays H O ps) (hM : H M = some (.dT kvs)) : Lays (upd H M o) O ps :=
  L.keep (fun x e => by rw [upd_ne (ne_of L.top hM (by intro z; cases z))]; exact e) (fun p hp x e => by rw [upd_ne (ne_of (L.each p hp).1 hM (by intro z; cases z))]; exact e) fun b ys e => by rw [upd_ne (ne_of e hM (by intro z; cases z))]; exact e
theorem rests_len (h : Hg) (k : Int) : (rests h k).length ≤ h.length + 1 := by
  have y := restFold_len k h (ups h.length) []
  have e : (ups h.length).length = h.length + 1 := by unfold ups; rw [List.length_map, List.length_range]
  rw [List.length_nil, e] at y
  unfold rests; omega
theorem fold_put_len {γ : Type} (f : γ → Hg) : ∀ (ds : List γ) (l : List Hg), (ds.foldl (fun l d => put l (f d)) l).length ≤ l.length + ds.length
  | [], l => Nat.le_refl _
  | d :: ds, l => by
    rw [List.foldl_cons, List.length_cons]
    have := fold_put_len f ds (put l (f d))
    have := put_len l (f d)
    omega
theorem layerStep_len (k : Int) (l : List Hg) (c : Hg) (hc : c.length ≤ 60) : (layerStep k l c).length ≤ l.length + 61 := by
  unfold layerStep
  have h1 := fold_put_len (behind c k) (isort ((rests c k).map (·.1))) l
  rw [(isort_perm _).length_eq, List.length_map] at h1
  have := rests_len c k
  omega
theorem fur_len {k : Int} : ∀ {cs : List Hg} {l : List Hg}, (∀ c ∈ cs, c.length ≤ 60) → (cs.foldl (layerStep k) l).length ≤ l.length + 61 * cs.length
  | [], l, _ => Nat.le_refl _
  | c :: cs, l, h => by
    rw [List.foldl_cons, List.length_cons]
    have := fur_len (k := k) (cs := cs) (l := layerStep k l c) fun d hd => h d (List.mem_cons_of_mem _ hd)
    have := layerStep_len k l c (h c List.mem_cons_self)
    omega
def spLayers : Sp := fun vs H Q _ => ∃ (k m : Int), vs = [.int k, .int m] ∧ 0 ≤ m ∧ LayOk k m.toNat ∧ ∀ H' O ps, Same H H' → Lays H' O ps → H O = none → (∀ p ∈ ps, H p.1 = none) → ps.map (·.2.2) = layers k m.toNat → Q (.ref O) H'
def spDue : Sp := fun vs H Q _ => ∃ (k m : Int) (g : Addr) (whole : Hg), vs = [.int k, .ref g, .int m] ∧ H g = some (.tup (whole.map V.int)) ∧ 0 ≤ m ∧ DueOk k whole m.toNat ∧ ∀ H' p ys, Same H H' → H' p = some (.lst ys) → Cores H' ys (due k whole m.toNat) → Q (.ref p) H'
abbrev sLlayers : Stmt := topS 60
theorem scLlayers : FnScope ["_law_k", "_law_most", "_law_layers_here", "_law_turn", "_law_further", "_law_core", "_law_letter"] ["_law_k", "_law_most"] (defScope sLlayers) := ⟨rfl, rfl, rfl, by decide +kernel, rfl, by decide +kernel, by decide +kernel⟩

abbrev sLleast : Stmt := topS 61
theorem scLleast : FnScope ["_law_k", "_law_whole", "_law_most", "_law_found", "_law_layer", "_law_core", "_law_other"] ["_law_k", "_law_whole", "_law_most"] (defScope sLleast) := ⟨rfl, rfl, rfl, by decide +kernel, rfl, by decide +kernel, by decide +kernel⟩

section
variable {P : Program} {w : World} {K : PySem.W.Frag} {mg : Str → Option Value} {base : Heap}
theorem ok_layers (B : Bi mg) (D : Here K mg "_law_layers" sLlayers ["_law_k", "_law_most"]) (d__law_rests_up : Ok P w K mg base 1 "_law_rests_up" ["_law_heap", "_law_k"] spRests) (d__law_behind : Ok P w K mg base 2 "_law_behind" ["_law_heap", "_law_k", "_law_letter"] spBehind) :
    Ok P w K mg base 3 "_law_layers" ["_law_k", "_law_most"] spLayers := by
  refine D.ok scLlayers (fun vs H Q E h => ?_) (fun f cdv A outer s H vs Q E hr h => ?_)
  · obtain ⟨k, m, rfl, _⟩ := h; rfl
  · obtain ⟨k, m, rfl, hm, lo, q⟩ := h
    refine ⟨_, (pss_cons (ps_set (i := 2) scLlayers.nd rfl (.inl rfl) (pe_lst (pa_cons (pe_lst (pa_cons (pe_tup pa_nil) pa_nil)) pa_nil)))
      (pss_cons (ps_for PassesOwn.never rfl (pi_range1 rfl B.range (pa_cons (pv 1) pa_nil)) (pg_name (i := 3) scLlayers.nd rfl (by first | exact Or.inl rfl | exact Or.inr rfl))
        (pss_cons (ps_set (i := 4) scLlayers.nd rfl (.inl rfl) pe_dnewT)
      (pss_cons (ps_for PassesOwn.never rfl (pi_listK K (pe_ix (kIxL K) (pv 2) (pe_un un_neg pe_int) (fun _ _ => rfl))) (pg_name (i := 5) scLlayers.nd rfl (by first | exact Or.inl rfl | exact Or.inr rfl))
        (pss_one (ps_for PassesOwn.never rfl (pi_listK K (pe_callB (call_sortedDI rfl) (by rfl) B.sorted bt_sorted (pa_cons (pe_own d__law_rests_up hr (pa_cons (pv 5) (pa_cons (pv 0) pa_nil))) pa_nil))) (pg_name (i := 6) scLlayers.nd rfl (by first | exact Or.inl rfl | exact Or.inr rfl))
        (pss_one (ps_dput (hu_of hr) (pv 4) (pe_own d__law_behind hr (pa_cons (pv 5) (pa_cons (pv 0) (pa_cons (pv 6) pa_nil)))) pe_bl rfl)))))
      (pss_one (ps_expr (pe_bm PySem.F.plainAttrs_list PySem.F.slot_list_append PySem.F.type_list_append mt_append (pv 2) (pa_cons (pe_callB (cr_sortCD rfl) (by rfl) B.sorted bt_sorted (pa_cons (pv 4) pa_nil)) pa_nil)))))))
      (pss_one (ps_ret (pv 2))))), ?_⟩
    refine ⟨Nat.zero_le _, fun t0 nt0 => ⟨by show 1 ≤ sizeLine; decide, fun L0 nL0 => ⟨by show 1 ≤ sizeLine; decide, fun O nO => ?_⟩⟩⟩
    have st0 := sm_new (o := .tup []) nt0
    have sL0 := sm_new (o := .lst [V.ref t0]) nL0
    have sO := sm_new (o := .lst [V.ref L0]) nO
    have nO0 : H O = none := (st0.trans sL0).free nO
    have nL00 : H L0 = none := st0.free nL0
    refine ⟨.int m, rfl, m, rfl, by omega, ?_, ?_⟩
    · have := lo.n16
      omega
    refine for_it (walk_range (lo := 0) (n := m.toNat)) (fun i σ H' => Same H H' ∧ ∃ (ps : List Lr) (b : Addr) (xs : List V) (y3 y4 y5 y6 : Option V), σ = [some (.int k), some (.int m), some (.ref O), y3, y4, y5, y6] ∧ Lays H' O (ps ++ [(b, xs, lay k i)]) ∧ (∀ p ∈ ps ++ [(b, xs, lay k i)], H p.1 = none) ∧ (ps ++ [(b, xs, lay k i)]).map (·.2.2) = layers k i)
      ⟨st0.trans (sL0.trans sO), [], L0, [V.ref t0], none, none, none, none, rfl, ⟨upd_same, fun p hp => ?_, fun p hp => ?_⟩, fun p hp => ?_, rfl⟩ (fun _ _ _ _ _ => trivial) (fun i x σ H0 H2 hi p y => ?_) fun σ H2 p => ?_
    · rw [List.mem_singleton.mp hp]
      exact ⟨sO _ _ upd_same, .cons ⟨t0, rfl, sO _ _ (sL0 _ _ upd_same)⟩ .nil⟩
    · rw [List.mem_singleton.mp hp]; exact ne_of_none upd_same nO
    · rw [List.mem_singleton.mp hp]; exact nL00
    · obtain ⟨s2, ps, b, xs, y3, y4, y5, y6, rfl, LL, hfr, hps⟩ := p
      obtain ⟨rfl, rfl⟩ := y
      refine fun M nM => ?_
      have sM := sm_new (o := .dT []) nM
      have LM := LL.same sM
      have nM0 : H M = none := s2.free nM
      have hb : (b, xs, lay k i) ∈ ps ++ [(b, xs, lay k i)] := List.mem_append_right _ List.mem_cons_self
      have hall : ∀ H', Lays H' O (ps ++ [(b, xs, lay k i)]) → H' b = some (.lst xs) ∧ Cores H' xs (lay k i) := fun H' L => L.each _ hb
      obtain ⟨z1, z2⟩ := lo.sz i (by omega)
      refine ⟨.ref O, rfl, 1, rfl, O, _, -1, .ref b, rfl, rfl, .inl (.inl LM.top), by rw [List.map_append]; exact atI_last _ _, b, rfl, ⟨_, .inl (.inl (hall _ LM).1)⟩, ?_⟩
      refine for_it (walk_list (K := K) (a := b) (xs := xs)) (fun n σ H' => Same H H' ∧ ∃ (kvs : List (List Key × V)) (y5 y6 : Option V), σ = [some (.int k), some (.int m), some (.ref O), some (.int (0 + (i : Nat))), some (.ref M), y5, y6] ∧ Lays H' O (ps ++ [(b, xs, lay k i)]) ∧ H' M = some (.dT kvs) ∧ kvs.map (·.1) = (((lay k i).take n).foldl (layerStep k) []).map ck)
        ⟨s2.trans sM, [], y5, y6, rfl, LM, upd_same, rfl⟩ (fun n σ H' _ p => by obtain ⟨_, _, _, _, _, L, _⟩ := p; exact .inl (.inl (hall _ L).1)) (fun n x σ H0 H3 hn p y => ?_) fun σ H3 p => ?_
      · obtain ⟨s3, kvs, z5, z6, rfl, L3, hM3, hk3⟩ := p
        obtain ⟨rfl, hxn⟩ := y
        obtain ⟨hb3, c3⟩ := hall _ L3
        obtain ⟨core, hci, t, rfl, ht⟩ := Cores.at c3 hxn
        have hcl := z2 core (mem_at hci)
        have et : (lay k i).take (n + 1) = (lay k i).take n ++ [core] := by rw [List.take_add_one, hci]; rfl
        have fl := fur_len (k := k) (cs := (lay k i).take n) (l := []) fun d hd => z2 d (List.mem_of_mem_take hd)
        have tl : ((lay k i).take n).length ≤ 60 := by rw [List.length_take]; omega
        generalize hst : ((lay k i).take n).foldl (layerStep k) [] = st at hk3 fl
        have ef : ((lay k i).take (n + 1)).foldl (layerStep k) [] = layerStep k st core := by rw [et, List.foldl_append, hst]; rfl
        refine ⟨.ref t, rfl, .int k, rfl, t, k, core, rfl, ht, hcl, lo.pos, fun H4 R d s4 ru hd => ?_⟩
        have rl := rests_len core k
        have dl : d.length = (rests core k).length := by rw [← hd, List.length_map]
        refine ⟨R, d.map entK, (rests core k).map (·.1), rfl, .inl ru.dict, ?_, ?_, fun ks A5 pk sk n5 => ?_⟩
        · rw [← hd, List.map_map, List.map_map, List.map_map]; rfl
        · rw [List.length_map]; omega
        · have s5 := sm_new (o := .lst (ks.map V.int)) n5
          have ek : ks = isort ((rests core k).map (·.1)) := isort_unique pk sk
          have s35 : Same H3 (upd H4 A5 (.lst (ks.map V.int))) := s4.trans s5
          refine ⟨A5, rfl, ⟨_, .inl (.inl upd_same)⟩, ?_⟩
          have w1 := walk_list (K := K) (a := A5) (xs := ks.map V.int)
          rw [List.length_map] at w1
          refine for_it w1 (fun j σ H' => Same H H' ∧ ∃ (kvs : List (List Key × V)) (y6 : Option V), σ = [some (.int k), some (.int m), some (.ref O), some (.int (0 + (i : Nat))), some (.ref M), some (.ref t), y6] ∧ Lays H' O (ps ++ [(b, xs, lay k i)]) ∧ H' A5 = some (.lst (ks.map V.int)) ∧ H' t = some (.tup (core.map V.int)) ∧ H' M = some (.dT kvs) ∧
              kvs.map (·.1) = ((ks.take j).foldl (fun l x => put l (behind core k x)) st).map ck)
            ⟨s3.trans s35, kvs, z6, rfl, L3.same s35, upd_same, s35 _ _ ht, s35 _ _ hM3, hk3⟩ (fun j σ H' _ p => by obtain ⟨_, _, _, _, _, z, _⟩ := p; exact .inl (.inl z)) (fun j x σ H0 H6 hj p y => ?_) fun σ H6 p => ?_
          · obtain ⟨s6, kvs6, z6, rfl, L6, hA6, ht6, hM6, hk6⟩ := p
            obtain ⟨rfl, hxj⟩ := y
            have gj : ks[j]? = some ks[j] := List.getElem?_eq_getElem hj
            rw [at_map gj hxj]
            refine ⟨.ref M, rfl, .ref t, rfl, .int k, rfl, .int ks[j], rfl, t, k, ks[j], core, rfl, ht6, hcl, lo.pos, fun H7 p s7 e7 => ?_⟩
            have hM7 := s7 _ _ hM6
            refine ⟨M, _, rfl, DPut.t hM7 (by rw [ck_kV]; exact e7) ?_, ?_⟩
            · have e8 := congrArg List.length hk6
              rw [List.length_map, List.length_map] at e8
              have := fold_put_len (behind core k) (ks.take j) st
              have kl : ks.length = (rests core k).length := by rw [pk.length_eq, List.length_map]
              rw [List.length_take] at this
              rw [sizeLine_eq]; simp only [List.length_nil] at fl; omega
            · have ne : ∀ {a : Addr} {o o' : HO}, H6 a = some o → (∀ kv, o ≠ .dT kv) → (upd H7 M o') a = some o := fun h z => by rw [upd_ne (ne_of (s7 _ _ h) hM7 (z _))]; exact s7 _ _ h
              refine ⟨sm_grow (s6.trans s7) nM0, _, _, rfl, (L6.same s7).dict hM7, ne hA6 (fun _ z => by cases z), ne ht6 (fun _ z => by cases z), upd_same, ?_⟩
              rw [List.take_add_one, gj]
              show _ = List.map ck (List.foldl _ _ (_ ++ [_]))
              rw [List.foldl_append]
              exact put_keys hk6
          · obtain ⟨s6, kvs6, z6, rfl, L6, hA6, ht6, hM6, hk6⟩ := p
            refine ⟨s6, kvs6, _, _, rfl, L6, hM6, ?_⟩
            rw [ef, hk6, List.take_of_length_le (Nat.le_refl _), ek]; rfl
      · obtain ⟨s3, kvs, z5, z6, rfl, L3, hM3, hk3⟩ := p
        obtain ⟨hb3, c3⟩ := hall _ L3
        have hl : xs.length = (lay k i).length := Cores.len c3
        rw [hl, List.take_length] at hk3
        have e1 : lay k (i + 1) = lsort (fur k (lay k i)) := rfl
        refine ⟨.ref O, rfl, .inl ⟨rfl, _, .inl (.inl L3.top)⟩, .ref M, rfl, M, kvs, fur k (lay k i), rfl, .inl hM3, hk3, fun d hd => lo.ne i hi d (by rw [e1]; exact (lsort_perm _).mem_iff.mpr hd), fun ys p np cy => ?_⟩
        have sp := sm_new (o := .lst ys) np
        have Lp := L3.same sp
        have hpO : O ≠ p := ne_of_none L3.top np
        refine ⟨O, _, _, rfl, rfl, Lp.top, ?_, sm_grow (s3.trans sp) nO0, ps ++ [(b, xs, lay k i)], p, ys, _, _, _, _, rfl, ⟨?_, fun r hr => ?_, fun r hr => ?_⟩, fun r hr => ?_, ?_⟩
        · have z := congrArg List.length hps
          rw [List.length_map, layers_len] at z
          rw [List.length_map, z, sizeLine_eq]
          have := lo.n16
          omega
        · simp only [upd_same, List.map_append, List.map_cons, List.map_nil]
        · have kt : ∀ b' zs, (upd H3 p (.lst ys)) b' = some (.tup zs) → (upd (upd H3 p (.lst ys)) O (.lst ((ps ++ [(b, xs, lay k i)]).map (fun p => V.ref p.1) ++ [V.ref p]))) b' = some (.tup zs) := fun b' zs e => by rw [upd_ne (ne_of e Lp.top (by intro z; cases z))]; exact e
          rcases List.mem_append.mp hr with h | h
          · obtain ⟨r1, r2⟩ := Lp.each r h
            refine ⟨?_, Cores.keep r2 kt⟩
            have rO : r.1 ≠ O := Lp.ne r h
            rw [upd_ne rO]; exact r1
          · rw [List.mem_singleton.mp h]
            refine ⟨?_, Cores.keep (Cores.same cy sp) kt⟩
            show upd _ O _ p = _
            rw [upd_ne (Ne.symm hpO), upd_same]
        · rcases List.mem_append.mp hr with h | h
          · exact Lp.ne r h
          · rw [List.mem_singleton.mp h]; exact Ne.symm hpO
        · rcases List.mem_append.mp hr with h | h
          · exact hfr r h
          · rw [List.mem_singleton.mp h]; exact s3.free np
        · rw [List.map_append, hps, layers_succ]; rfl
    · obtain ⟨s2, ps, b, xs, y3, y4, y5, y6, rfl, LL, hfr, hps⟩ := p
      exact ⟨.ref O, rfl, q _ O _ s2 LL nO0 hfr hps⟩
theorem dueStep_len (whole : Hg) : ∀ (l : List Hg) (fs : List Hg), (l.foldl (dueStep whole) fs).length ≤ fs.length + l.length
  | [], fs => Nat.le_refl _
  | c :: l, fs => by
    rw [List.foldl_cons, List.length_cons]
    have := dueStep_len whole l (dueStep whole fs c)
    have e : (dueStep whole fs c).length ≤ fs.length + 1 := by
      unfold dueStep
      split
      · rw [List.length_append]; exact Nat.le_refl _
      · omega
    omega
theorem dueAll_len (whole : Hg) : ∀ (ls : List (List Hg)) (fs : List Hg), (∀ l ∈ ls, l.length ≤ 60) → (ls.foldl (fun fs l => l.foldl (dueStep whole) fs) fs).length ≤ fs.length + 60 * ls.length
  | [], fs, _ => Nat.le_refl _
  | c :: l, fs, h => by
    rw [List.foldl_cons, List.length_cons]
    have := dueAll_len whole l (c.foldl (dueStep whole) fs) fun d hd => h d (List.mem_cons_of_mem _ hd)
    have := dueStep_len whole c fs
    have := h c List.mem_cons_self
    omega
theorem kSortL {X : Cx} (K : PySem.W.Frag) (h : X.K = K := by rfl) : CallR X (.builtin "sorted") (rSortC K) := h ▸ cr_sortC
theorem dueStep_all {whole : Hg} {p : Hg → Prop} : ∀ {l : List Hg} {fs : List Hg}, (∀ c ∈ fs, p c) → (∀ c ∈ l, p c) → ∀ c ∈ l.foldl (dueStep whole) fs, p c
  | [], fs, h, _ => h
  | c :: l, fs, h, hl => by
    rw [List.foldl_cons]
    refine dueStep_all (fun d hd => ?_) fun d hd => hl d (List.mem_cons_of_mem _ hd)
    unfold dueStep at hd
    split at hd
    · rcases List.mem_append.mp hd with hd | hd
      · exact h d hd
      · rw [List.mem_singleton.mp hd]; exact hl c List.mem_cons_self
    · exact h d hd
theorem dueAll_all {whole : Hg} {p : Hg → Prop} : ∀ {ls : List (List Hg)} {fs : List Hg}, (∀ c ∈ fs, p c) → (∀ l ∈ ls, ∀ c ∈ l, p c) → ∀ c ∈ ls.foldl (fun fs l => l.foldl (dueStep whole) fs) fs, p c
  | [], fs, h, _ => h
  | l :: ls, fs, h, hl => by
    rw [List.foldl_cons]
    exact dueAll_all (dueStep_all h (hl l List.mem_cons_self)) fun d hd => hl d (List.mem_cons_of_mem _ hd)
theorem ok_due (B : Bi mg) (D : Here K mg "_law_least" sLleast ["_law_k", "_law_whole", "_law_most"]) (d__law_layers : Ok P w K mg base 3 "_law_layers" ["_law_k", "_law_most"] spLayers) (d__law_holds : Ok P w K mg base 1 "_law_holds" ["_law_heap", "_law_other"] spLHolds) :
    Ok P w K mg base 4 "_law_least" ["_law_k", "_law_whole", "_law_most"] spDue := by
  refine D.ok scLleast (fun vs H Q E h => ?_) (fun f cdv A outer s H vs Q E hr h => ?_)
  · obtain ⟨k, m, g, whole, rfl, _⟩ := h; rfl
  · obtain ⟨k, m, g, whole, rfl, hg, hm, du, q⟩ := h
    refine ⟨_, (pss_cons (ps_set (i := 3) scLleast.nd rfl (.inl rfl) (pe_lst pa_nil))
      (pss_cons (ps_for PassesOwn.never rfl (pi_listK K (pe_own d__law_layers hr (pa_cons (pv 0) (pa_cons (pv 2) pa_nil)))) (pg_name (i := 4) scLleast.nd rfl (by first | exact Or.inl rfl | exact Or.inr rfl))
        (pss_one (ps_for PassesOwn.never rfl (pi_listK K (pv 4)) (pg_name (i := 5) scLleast.nd rfl (by first | exact Or.inl rfl | exact Or.inr rfl))
        (pss_one (ps_if (PW.pt (pw_and (pt_val (pe_own d__law_holds hr (pa_cons (pv 5) (pa_cons (pv 1) pa_nil)))) (pw_and1 (pt_cmpR (kEqD K hr.units) (pe_lc (own := [("_law_other", 6)]) rfl scLleast.nd (pi_listK K (pv 3)) (blkOk_by (N := ["_law_k", "_law_whole", "_law_most", "_law_found", "_law_layer", "_law_core", "_law_other"]) (sc := defScope sLleast) (by decide +kernel)) (fun _ _ _ _ _ => (pg_name (i := 6) scLleast.nd rfl (by first | exact Or.inl rfl | exact Or.inr rfl))) (fun _ _ _ _ _ => (pts_one (pt_val (pe_own d__law_holds hr (pa_cons (pv 5) (pa_cons (pv 6) pa_nil)))))) (fun _ _ _ _ _ => pe_int)) (pe_lst pa_nil) (nomark _))))) (pss_one (ps_expr (pe_bm PySem.F.plainAttrs_list PySem.F.slot_list_append PySem.F.type_list_append mt_append (pv 3) (pa_cons (pv 5) pa_nil)))) pss_nil)))))
      (pss_one (ps_ret (pe_callB (kSortL K) (by rfl) B.sorted bt_sorted (pa_cons (pv 3) pa_nil)))))), ?_⟩
    refine ⟨Nat.zero_le _, fun F nF => ?_⟩
    have sF := sm_new (o := .lst []) nF
    refine ⟨.int k, rfl, .int m, rfl, k, m, rfl, hm, du.ly, fun H1 O ps s1 L1 nO hfr hps => ?_⟩
    have hF1 := s1 _ _ (upd_same (H := H) (a := F) (o := .lst []))
    have hFO : O ≠ F := by
      intro z; subst z; rw [upd_same] at nO; cases nO
    have hFp : ∀ p ∈ ps, p.1 ≠ F := fun p hp z => by
      have := hfr p hp
      rw [z, upd_same] at this; cases this
    have hpsl : ps.length = m.toNat + 1 := by rw [← layers_len k m.toNat, ← hps, List.length_map]
    have lsz : ∀ l ∈ layers k m.toNat, l.length ≤ 60 := fun l hl => by
      obtain ⟨j, hj, rfl⟩ := layers_mem k _ l hl
      exact (du.ly.sz j hj).1
    have lcl : ∀ l ∈ layers k m.toNat, ∀ c ∈ l, c.length ≤ 60 := fun l hl => by
      obtain ⟨j, hj, rfl⟩ := layers_mem k _ l hl
      exact (du.ly.sz j hj).2
    refine ⟨O, rfl, ⟨_, .inl (.inl L1.top)⟩, ?_⟩
    have w1 := walk_list (K := K) (a := O) (xs := ps.map fun p => V.ref p.1)
    rw [List.length_map] at w1
    refine for_it w1 (fun i σ H' => Same H H' ∧ ∃ (fx : List V) (y4 y5 y6 : Option V), σ = [some (.int k), some (.ref g), some (.int m), some (.ref F), y4, y5, y6] ∧ Lays H' O ps ∧ H' F = some (.lst fx) ∧ Cores H' fx (((layers k m.toNat).take i).foldl (fun fs l => l.foldl (dueStep whole) fs) []))
      ⟨sF.trans s1, [], none, none, none, rfl, L1, hF1, .nil⟩ (fun i σ H' _ p => by obtain ⟨_, _, _, _, _, _, L, _⟩ := p; exact .inl (.inl L.top)) (fun i x σ H0 H2 hi p y => ?_) fun σ H2 p => ?_
    · obtain ⟨s2, fx, y4, y5, y6, rfl, L2, hF2, cF2⟩ := p
      obtain ⟨rfl, hx⟩ := y
      have gi : ps[i]? = some ps[i] := List.getElem?_eq_getElem hi
      rw [at_map (φ := fun p : Lr => V.ref p.1) gi hx]
      have hm1 : ps[i] ∈ ps := List.getElem_mem hi
      have gl : (layers k m.toNat)[i]? = some ps[i].2.2 := by rw [← hps, List.getElem?_map, gi]; rfl
      have et : (layers k m.toNat).take (i + 1) = (layers k m.toNat).take i ++ [ps[i].2.2] := by rw [List.take_add_one, gl]; rfl
      have hml := mem_at gl
      have zl := lsz _ hml
      have zc := lcl _ hml
      have fl := dueAll_len whole ((layers k m.toNat).take i) [] fun l hl => lsz l (List.mem_of_mem_take hl)
      have tl : ((layers k m.toNat).take i).length ≤ 17 := by
        rw [List.length_take, layers_len]
        have := du.ly.n16
        omega
      have w2 : ∀ c ∈ ((layers k m.toNat).take i).foldl (fun fs l => l.foldl (dueStep whole) fs) [], c.length ≤ 60 := dueAll_all (fun c hc => by cases hc) fun l hl => lcl l (List.mem_of_mem_take hl)
      generalize hst : ((layers k m.toNat).take i).foldl (fun fs l => l.foldl (dueStep whole) fs) [] = st at cF2 fl w2
      have ef : ((layers k m.toNat).take (i + 1)).foldl (fun fs l => l.foldl (dueStep whole) fs) [] = ps[i].2.2.foldl (dueStep whole) st := by rw [et, List.foldl_append, hst]; rfl
      have pF := hFp _ hm1
      have cc := (L2.each _ hm1)
      refine ⟨.ref ps[i].1, rfl, ps[i].1, rfl, ⟨_, .inl (.inl cc.1)⟩, ?_⟩
      refine for_it (walk_list (K := K) (a := ps[i].1) (xs := ps[i].2.1)) (fun n σ H' => Same H H' ∧ ∃ (fx : List V) (y5 y6 : Option V), σ = [some (.int k), some (.ref g), some (.int m), some (.ref F), some (.ref ps[i].1), y5, y6] ∧ Lays H' O ps ∧ H' F = some (.lst fx) ∧ Cores H' fx ((ps[i].2.2.take n).foldl (dueStep whole) st))
        ⟨s2, fx, y5, y6, rfl, L2, hF2, cF2⟩ (fun n σ H' _ p => by obtain ⟨_, _, _, _, _, L, _⟩ := p; exact .inl (.inl (L.each _ hm1).1)) (fun n x σ H0 H3 hn p y => ?_) fun σ H3 p => ?_
      · obtain ⟨s3, fx3, z5, z6, rfl, L3, hF3, cF3⟩ := p
        obtain ⟨rfl, hxn⟩ := y
        obtain ⟨core, hci, t, rfl, ht⟩ := Cores.at (L3.each _ hm1).2 hxn
        have hcl := zc core (mem_at hci)
        have e2 : ps[i].2.2.take (n + 1) = ps[i].2.2.take n ++ [core] := by rw [List.take_add_one, hci]; rfl
        have fl3 := dueStep_len whole (ps[i].2.2.take n) st
        have tl3 : (ps[i].2.2.take n).length ≤ 60 := by rw [List.length_take]; omega
        have w3 : ∀ c ∈ (ps[i].2.2.take n).foldl (dueStep whole) st, c.length ≤ 60 := dueStep_all w2 fun c hc => zc c (List.mem_of_mem_take hc)
        generalize hst3 : (ps[i].2.2.take n).foldl (dueStep whole) st = st3 at cF3 fl3 w3
        have ef3 : (ps[i].2.2.take (n + 1)).foldl (dueStep whole) st = dueStep whole st3 core := by rw [e2, List.foldl_append, hst3]; rfl
        have stl : st3.length ≤ 3000 := by
          simp only [List.length_nil] at fl; omega
        obtain ⟨qs, rfl, eq, hqs⟩ := tupF_list (F := fun c : Hg => c.map V.int) cF3
        have ql : qs.length ≤ 3000 := by rw [← eq, List.length_map] at stl; exact stl
        have no : ∀ H', Same H3 H' → dueStep whole st3 core = st3 → Same H H' ∧ ∃ (fx : List V) (y5 y6 : Option V), [some (.int k), some (.ref g), some (.int m), some (.ref F), some (.ref ps[i].1), some (.ref t), z6] = [some (.int k), some (.ref g), some (.int m), some (.ref F), some (.ref ps[i].1), y5, y6] ∧ Lays H' O ps ∧ H' F = some (.lst fx) ∧ Cores H' fx ((ps[i].2.2.take (n + 1)).foldl (dueStep whole) st) :=
          fun H' s' e => ⟨s3.trans s', _, _, _, rfl, L3.same s', s' _ _ hF3, by rw [ef3, e]; exact Cores.same cF3 s'⟩
        refine ⟨.ref t, rfl, .ref g, rfl, t, g, core, whole, rfl, ht, s3 _ _ hg, by have := du.wl; omega, fun H4 s4 => ⟨_, rfl, ?_⟩⟩
        refine ite2 (fun c1 => ?_) (fun c1 => ?_)
        · have hFL : SqL K H4 F (qs.map fun p => V.ref p.1) := .inl (.inl (s4 _ _ hF3))
          refine ⟨.ref F, rfl, F, rfl, ⟨_, hFL⟩, fun L nL => ?_⟩
          refine lc_l (fun p : Addr × Hg => V.ref p.1) qs (fun p => if lawHolds core p.2 = true then some (.int 1) else none) nL (by omega) hFL (fun j p H5 P1 P0 e s5 k1 k0 => ?_) fun H5 s5 e5 => ?_
          · have hp := hqs p (mem_at e)
            have pl : p.2.length ≤ 4000 := by
              have := w3 p.2 (by rw [← eq]; exact List.mem_map.mpr ⟨p, mem_at e, rfl⟩)
              omega
            refine ⟨rfl, .ref t, rfl, .ref p.1, rfl, t, p.1, core, p.2, rfl, s5 _ _ (s4 _ _ ht), s5 _ _ (s4 _ _ hp), pl, fun H6 s6 => ⟨_, rfl, ite2 (fun z => ?_) (fun z => ?_)⟩⟩
            · exact k1 _ _ (if_pos z) s6
            · exact k0 _ (if_neg z) s6
          · rw [fm_if (fun p : Addr × Hg => lawHolds core p.2) (fun _ => V.int 1) qs, map_one] at e5
            refine ⟨Nat.zero_le _, fun E nE => ?_⟩
            have sE := sm_new (o := .lst []) nE
            refine ⟨_, .list (([] : Hg).map PyData.int), .lst (.inl (.inl (sE _ _ e5))) (dp_ints _), .lst (.inl (.inl upd_same)) (dp_ints []), shp_ints _, shp_ints [], ?_⟩
            rw [eqv_none]
            have e6 : (qs.filter fun p => lawHolds core p.2).isEmpty = (st3.filter fun o => lawHolds core o).isEmpty := by
              rw [← eq, List.filter_map, List.isEmpty_map]; rfl
            rw [e6]
            have s46 := s4.trans (s5.trans sE)
            refine ⟨_, rfl, ite2 (fun c2 => ?_) (fun c2 => ?_)⟩
            · have es : dueStep whole st3 core = st3 ++ [core] := by unfold dueStep; rw [if_pos ⟨c1, c2⟩]
              have hF6 := s46 _ _ hF3
              have nF0 : H F = none := nF
              refine ⟨.ref F, rfl, .inl ⟨rfl, _, .inl (.inl hF6)⟩, .ref t, rfl, F, _, .ref t, rfl, rfl, hF6, ?_, sm_grow (s3.trans s46) nF0, _, _, _, rfl, ?_, upd_same, ?_⟩
              · rw [List.length_map, sizeLine_eq]; omega
              · exact (L3.same s46).keep (fun o e => by rw [upd_ne hFO]; exact e) (fun p hp o e => by rw [upd_ne (hFp p hp)]; exact e) fun b ys e => by rw [upd_ne (ne_of e hF6 (by intro z; cases z))]; exact e
              · rw [ef3, es]
                exact Cores.snoc (Cores.up (Cores.same cF3 s46) hF6 (fun ys z => by cases z)) ⟨t, rfl, by rw [upd_ne (ne_of (s46 _ _ ht) hF6 (by intro z; cases z))]; exact s46 _ _ ht⟩
            · exact no _ s46 (by unfold dueStep; rw [if_neg (fun z => c2 z.2)])
        · exact no _ s4 (by unfold dueStep; rw [if_neg (fun z => c1 z.1)])
      · obtain ⟨s3, fx3, z5, z6, rfl, L3, hF3, cF3⟩ := p
        refine ⟨s3, fx3, _, _, _, rfl, L3, hF3, ?_⟩
        rw [Cores.len (L3.each _ hm1).2, List.take_length] at cF3
        rw [ef]; exact cF3
    · obtain ⟨s2, fx, y4, y5, y6, rfl, L2, hF2, cF2⟩ := p
      rw [hpsl, ← layers_len k m.toNat, List.take_length] at cF2
      refine ⟨.ref F, rfl, F, fx, _, rfl, .inl (.inl hF2), cF2, fun d hd => du.ne d ((lsort_perm _).mem_iff.mpr hd), fun ys p np cy => ?_⟩
      have sp := sm_new (o := .lst ys) np
      exact q _ p ys (s2.trans sp) upd_same (Cores.same cy sp)
end
end L2.Q67
namespace L2.Q67
open PySem PySem.Spec PyProof.Rows R67
def spDiceK (K : PySem.W.Frag) : Sp := fun vs H Q _ => ∃ (s : Addr) (t : Int) (ns : List Int), vs = [.ref s, .int t] ∧ SqL K H s (ns.map V.int) ∧ 0 ≤ t ∧ t ≤ 3 ∧ ∀ H' p, Same H H' → H p = none → isDice H' p → Q (.ref p) H'
theorem seq_of {t u : TS} {D : Ends} {σ : St} {H : Hp} (f : Int → St) (h : ∀ N : St → Hp → Prop, (∀ x, N (f x) H) → t { D with nx := N } σ H) (q : ∀ x, u D (f x) H) : tSeq t u D σ H := h _ q
abbrev sLdice : Stmt := topS 50
theorem scLdice : FnScope ["_law_script", "_law_at", "_law_cell", "_law_great", "_law_left", "_law_mixed"] ["_law_script", "_law_at"] (defScope sLdice) := ⟨rfl, rfl, rfl, by decide +kernel, rfl, by decide +kernel, by decide +kernel⟩

theorem at_ns {ns : List Int} {c : Int} (h0 : 0 ≤ c) (h1 : c < ns.length) : ∃ v : Int, atI (ns.map V.int) c = some (.int v) := by
  obtain ⟨k, rfl⟩ : ∃ k : Nat, c = k := ⟨c.toNat, by omega⟩
  refine ⟨ns[k]'(by omega), atI_nat ?_⟩
  rw [List.getElem?_map, List.getElem?_eq_getElem (by omega)]; rfl
section
variable {P : Program} {w : World} {K : PySem.W.Frag} {mg : Str → Option Value} {base : Heap}
theorem ok_dice (B : Bi mg) (D : Here K mg "_law_dice" sLdice ["_law_script", "_law_at"]) : Ok P w K mg base 1 "_law_dice" ["_law_script", "_law_at"] (spDiceK K) := by
  refine D.ok scLdice (fun vs H Q E h => ?_) (fun f cdv A outer s H vs Q E hr h => ?_)
  · obtain ⟨a, t, ns, rfl, _⟩ := h; rfl
  · obtain ⟨a, t, ns, rfl, hs, t0, t3, q⟩ := h
    refine ⟨_, (pss_cons (ps_set (i := 2) scLdice.nd rfl (.inl rfl) (pe_op op_add (pe_op op_mul pe_int (pv 1)) pe_int))
      (pss_cons (ps_if (pt_cmpR op_lt (pv 1) (pe_callB (kLen K) (by rfl) B.len PySem.boot_len (pa_cons (pv 0) pa_nil)) (nomark _)) (pss_one (ps_set (i := 2) scLdice.nd rfl (.inl rfl) (pe_ix (kIxL K) (pv 0) (pv 1) (fun _ _ => rfl)))) pss_nil)
      (pss_cons (ps_set (i := 3) scLdice.nd rfl (.inl rfl) (pe_op op_mod (pe_callTy call_int1 (by rfl) B.int bt_int (pa_cons (pe_callB call_abs (by rfl) B.abs bt_abs (pa_cons (pv 2) pa_nil)) pa_nil)) (pe_op op_powB (pe_op op_pow pe_int pe_int) pe_int)))
      (pss_cons (ps_set (i := 4) scLdice.nd rfl (.inl rfl) (pe_op op_fdivW (pv 3) (pe_op op_pow pe_int pe_int)))
      (pss_cons (ps_set (i := 5) scLdice.nd rfl (.inl rfl) (pe_op op_add (pe_op op_add (pe_op op_add (pe_op op_mul (pe_op op_mod (pv 3) pe_int) pe_int) (pe_op op_mul pe_int (pv 1))) (pe_op op_mul pe_int (pe_callTy call_int1 (by rfl) B.int bt_int (pa_cons (pe_cmpR op_lt (pv 2) pe_int (nomark _)) pa_nil)))) pe_int))
      (pss_one (ps_ret (pe_lst (pa_cons (pv 4) (pa_cons (pe_op op_mod (pv 5) pe_int) (pa_cons pe_int pa_nil))))))))))), ?_⟩
    refine ⟨.int t, rfl, 101, t, rfl, rfl, .inl ⟨by decide, by decide⟩, _, 47, rfl, rfl, ?_⟩
    dsimp only [gName]
    refine seq_of (fun x => [some (.ref a), some (.int t), some (.int x), none, none, none]) (fun N hN => ?_) fun x => ?_
    · refine ⟨.int t, rfl, .ref a, rfl, a, _, rfl, .inl hs, _, _, rfl, rfl, _, rfl, ite2 (fun z => ?_) (fun z => ?_)⟩
      · have z := of_decide_eq_true z
        rw [List.length_map] at z
        obtain ⟨v, hv⟩ := at_ns t0 z
        exact ⟨.ref a, rfl, .int t, rfl, a, _, t, _, rfl, rfl, hs, hv, hN v⟩
      · exact hN _
    · refine ⟨.int x, rfl, x, rfl, .inl ⟨_, rfl, ?_⟩⟩
      refine ⟨10, 60, rfl, rfl, ⟨by decide, by decide, by decide⟩, _, 10, rfl, rfl, ⟨by decide, by decide +kernel⟩, _, _, rfl, rfl, (by decide +kernel : (0 : Int) < ((10 : Int) ^ (60 : Int).toNat) ^ (10 : Int).toNat), ?_⟩
      dsimp only
      generalize ((if x < 0 then -x else x) % ((10 : Int) ^ (60 : Int).toNat) ^ (10 : Int).toNat) = g
      refine ⟨.int g, rfl, 10, 18, rfl, rfl, ⟨by decide, by decide, by decide⟩, g, _, rfl, rfl, ⟨by decide +kernel, by decide +kernel⟩, ?_⟩
      refine ⟨.int g, rfl, g, 2147482697, rfl, rfl, (by decide : (0 : Int) < 2147482697), _, 60497, rfl, rfl, .inr ⟨by decide, by decide⟩, .int t, rfl, 3533, t, rfl, rfl, .inl ⟨by decide, by decide⟩, _, _, rfl, rfl, ?_⟩
      refine ⟨.int x, rfl, x, 0, rfl, rfl, .inr ⟨_, rfl, 89, _, rfl, rfl, .inl ⟨by decide, by decide⟩, _, _, rfl, rfl, _, 109, rfl, rfl, ?_⟩⟩
      refine ⟨_, rfl, _, rfl, _, 2147482661, rfl, rfl, (by decide : (0 : Int) < 2147482661), by show 3 ≤ sizeLine; decide, fun p np => q _ p (sm_new np) np ⟨_, _, 0, upd_same⟩⟩
end
end L2.Q67
namespace R67
def boxes : List (Int × Int) := [(1, 1), (1, 2), (1, 3), (2, 1), (2, 2), (2, 3), (3, 1), (3, 2)]
def ks : List Int := [2, 3, 4, 5, 6]
def dueOf (k c r : Int) : List Hg := due k (boxOf c r) (c * r).toNat
def letAll (k : Int) (l : List Hg) : List Hg := l.foldl (fun a h => (List.range k.toNat).foldl (fun a (c : Nat) => put a (grown h k 1 (c : Int))) (put a h)) []
def lev (k : Int) : Nat → List Hg
  | 0 => [[]]
  | n + 1 => letAll k (lev k n)
def good40 : Bool := ks.all fun k => boxes.all fun b => (List.range 9).all fun j => L2.Q67.cGood (cRun k (boxOf b.1 b.2) j)
def end40 : Bool := ks.all fun k => boxes.all fun b => (cRun k (boxOf b.1 b.2) 8).2.isEmpty
def fine40 : Bool := ks.all fun k => boxes.all fun b => (found k (boxOf b.1 b.2)).all fun d => !d.isEmpty && decide (d.length ≤ 30)
def same40 : Bool := ks.all fun k => boxes.all fun b => decide (least k (boxOf b.1 b.2) = dueOf k b.1 b.2)
def few40 : Bool := ks.all fun k => boxes.all fun b => decide (fewest k b.1 b.2 = minI ((dueOf k b.1 b.2).map (letters k)))
def core40 : Bool := ks.all fun k => boxes.all fun b => !(dueOf k b.1 b.2).isEmpty && decide ((dueOf k b.1 b.2).length ≤ 60) && (dueOf k b.1 b.2).all fun d => L2.Q67.heapOk d && isCore k d
def lay5 : Bool := ks.all fun k => (List.range 7).all fun j => decide ((lay k j).length ≤ 60) && (lay k j).all fun c => decide (c.length ≤ 60) && (decide (j = 0) || !c.isEmpty)
def reach40 : Bool := ks.all fun k => boxes.all fun b => (lev k 8).all fun h => lawHolds h (boxOf b.1 b.2) == !((dueOf k b.1 b.2).filter fun c => lawHolds h c).isEmpty
def inv5 : Bool := ks.all fun k => (List.range k.toNat).all fun s => !decide (Nat.gcd k.toNat s = 1) || (List.range k.toNat).any fun t => decide (((s : Int) * (t : Int) - 1) % k = 0)
theorem good40_ok : good40 = true := by decide +kernel
theorem end40_ok : end40 = true := by decide +kernel
theorem fine40_ok : fine40 = true := by decide +kernel
theorem same40_ok : same40 = true := by decide +kernel
theorem few40_ok : few40 = true := by decide +kernel
theorem core40_ok : core40 = true := by decide +kernel
theorem lay5_ok : lay5 = true := by decide +kernel
theorem reach40_ok : reach40 = true := by decide +kernel
theorem inv5_ok : inv5 = true := by decide +kernel
end R67
namespace L2.Q67
open PySem PySem.Spec PyProof.Rows R67
theorem pick5 {f : Int → Bool} (h : (ks.all f) = true) {k : Int} (hk : k ∈ ks) : f k = true := List.all_eq_true.mp h k hk
theorem pick40 (f : Int → Int → Int → Bool) (h : (ks.all fun k => boxes.all fun b => f k b.1 b.2) = true) {k c r : Int} (hk : k ∈ ks) (hb : (c, r) ∈ boxes) : f k c r = true := List.all_eq_true.mp (List.all_eq_true.mp h k hk) (c, r) hb
theorem in_ks {k : Int} (h2 : 2 ≤ k) (h6 : k ≤ 6) : k ∈ ks := by
  have : k = 2 ∨ k = 3 ∨ k = 4 ∨ k = 5 ∨ k = 6 := by omega
  rcases this with rfl | rfl | rfl | rfl | rfl <;> decide
theorem ks_bd {k : Int} (h : k ∈ ks) : 2 ≤ k ∧ k ≤ 6 := by
  have z := pick5 (f := fun k => decide (2 ≤ k) && decide (k ≤ 6)) (by decide) h
  rw [Bool.and_eq_true] at z
  exact ⟨of_decide_eq_true z.1, of_decide_eq_true z.2⟩
theorem in_boxes {c r : Int} (c1 : 1 ≤ c) (c3 : c ≤ 3) (r1 : 1 ≤ r) (r3 : r ≤ 3) (h : c = 3 → r ≤ 2) : (c, r) ∈ boxes := by
  have hc : c = 1 ∨ c = 2 ∨ c = 3 := by omega
  have hr : r = 1 ∨ r = 2 ∨ r = 3 := by omega
  rcases hc with rfl | rfl | rfl <;> rcases hr with rfl | rfl | rfl <;> first | decide | (exfalso; have := h rfl; omega)
theorem box_bd {b : Int × Int} (h : b ∈ boxes) : 1 ≤ b.1 ∧ b.1 ≤ 3 ∧ 1 ≤ b.2 ∧ b.2 ≤ 3 ∧ b.1 * b.2 ≤ 6 := by
  have z := List.all_eq_true.mp (show (boxes.all fun b => decide (1 ≤ b.1) && decide (b.1 ≤ 3) && decide (1 ≤ b.2) && decide (b.2 ≤ 3) && decide (b.1 * b.2 ≤ 6)) = true by decide) b h
  simp only [Bool.and_eq_true, decide_eq_true_eq] at z
  omega
variable {k c r : Int}
theorem dw (hk : k ∈ ks) (hb : (c, r) ∈ boxes) : Drawn k c r := by
  obtain ⟨k2, k6⟩ := ks_bd hk
  obtain ⟨b1, b2, b3, b4, b5⟩ := box_bd hb
  dsimp only at b1 b2 b3 b4 b5
  exact ⟨k2, by omega, b1, by omega, b3, by omega, by omega⟩
theorem box_ok (hk : k ∈ ks) (hb : (c, r) ∈ boxes) : BoxOk k (boxOf c r) := by
  obtain ⟨k2, k6⟩ := ks_bd hk
  refine ⟨by omega, fun j hj => ?_, ?_⟩
  · have z : ((List.range 9).all fun j => cGood (cRun k (boxOf c r) j)) = true := pick40 (fun k c r => (List.range 9).all fun j => cGood (cRun k (boxOf c r) j)) good40_ok hk hb
    exact List.all_eq_true.mp z j (List.mem_range.mpr (by omega))
  · have z : (cRun k (boxOf c r) 8).2.isEmpty = true := pick40 (fun k c r => (cRun k (boxOf c r) 8).2.isEmpty) end40_ok hk hb
    exact List.isEmpty_iff.mp z
theorem found_ok (hk : k ∈ ks) (hb : (c, r) ∈ boxes) : FoundOk k (boxOf c r) := by
  refine ⟨box_ok hk hb, fun d hd => ?_⟩
  have z0 : ((found k (boxOf c r)).all fun d => !d.isEmpty && decide (d.length ≤ 30)) = true := pick40 (fun k c r => (found k (boxOf c r)).all fun d => !d.isEmpty && decide (d.length ≤ 30)) fine40_ok hk hb
  have z := List.all_eq_true.mp z0 d hd
  rw [Bool.and_eq_true] at z
  exact ⟨fun e => by rw [e] at z; exact absurd z.1 (by decide), of_decide_eq_true z.2⟩
theorem least_due (hk : k ∈ ks) (hb : (c, r) ∈ boxes) : least k (boxOf c r) = dueOf k c r := by
  have z : decide (least k (boxOf c r) = dueOf k c r) = true := pick40 (fun k c r => decide (least k (boxOf c r) = dueOf k c r)) same40_ok hk hb
  exact of_decide_eq_true z
theorem few_due (hk : k ∈ ks) (hb : (c, r) ∈ boxes) : fewest k c r = minI ((dueOf k c r).map (letters k)) := by
  have z : decide (fewest k c r = minI ((dueOf k c r).map (letters k))) = true := pick40 (fun k c r => decide (fewest k c r = minI ((dueOf k c r).map (letters k)))) few40_ok hk hb
  exact of_decide_eq_true z
theorem core_due (hk : k ∈ ks) (hb : (c, r) ∈ boxes) : dueOf k c r ≠ [] ∧ (dueOf k c r).length ≤ 60 ∧ ∀ d ∈ dueOf k c r, heapOk d = true ∧ isCore k d = true := by
  have z : (!(dueOf k c r).isEmpty && decide ((dueOf k c r).length ≤ 60) && (dueOf k c r).all fun d => heapOk d && isCore k d) = true := pick40 (fun k c r => !(dueOf k c r).isEmpty && decide ((dueOf k c r).length ≤ 60) && (dueOf k c r).all fun d => heapOk d && isCore k d) core40_ok hk hb
  rw [Bool.and_eq_true, Bool.and_eq_true] at z
  refine ⟨fun e => ?_, of_decide_eq_true z.1.2, fun d hd => ?_⟩
  · have y := z.1.1
    rw [e] at y; exact absurd y (by decide)
  · have y := List.all_eq_true.mp z.2 d hd
    rw [Bool.and_eq_true] at y
    exact y
theorem due_ok (hk : k ∈ ks) (hb : (c, r) ∈ boxes) : DueOk k (boxOf c r) (c * r).toNat := by
  obtain ⟨k2, k6⟩ := ks_bd hk
  obtain ⟨b1, b2, b3, b4, b5⟩ := box_bd hb
  dsimp only at b1 b2 b3 b4 b5
  have ly : ∀ j, j ≤ 6 → (lay k j).length ≤ 60 ∧ ∀ c ∈ lay k j, c.length ≤ 60 ∧ (j ≠ 0 → c ≠ []) := fun j hj => by
    have z := List.all_eq_true.mp (pick5 (f := fun k => (List.range 7).all fun j => decide ((lay k j).length ≤ 60) && (lay k j).all fun c => decide (c.length ≤ 60) && (decide (j = 0) || !c.isEmpty)) lay5_ok hk) j (List.mem_range.mpr (by omega))
    rw [Bool.and_eq_true] at z
    refine ⟨of_decide_eq_true z.1, fun c hc => ?_⟩
    have y := List.all_eq_true.mp z.2 c hc
    rw [Bool.and_eq_true] at y
    refine ⟨of_decide_eq_true y.1, fun h0 e => ?_⟩
    have x := y.2
    rw [e, decide_eq_false h0] at x
    exact absurd x (by decide)
  refine ⟨⟨by omega, by omega, fun j hj => ⟨(ly j (by omega)).1, fun c hc => ((ly j (by omega)).2 c hc).1⟩, fun j hj c hc => ((ly (j + 1) (by omega)).2 c hc).2 (by omega)⟩, ?_, fun d hd e => ?_⟩
  · unfold boxOf; rw [List.length_replicate]; omega
  · have z := ((core_due hk hb).2.2 d hd).1
    rw [e] at z; exact absurd z (by decide)
theorem reach (hk : k ∈ ks) (hb : (c, r) ∈ boxes) {h : Hg} (hm : h ∈ lev k 8) : lawHolds h (boxOf c r) = !((dueOf k c r).filter fun c => lawHolds h c).isEmpty :=
by
  have z : ((lev k 8).all fun h => lawHolds h (boxOf c r) == !((dueOf k c r).filter fun c => lawHolds h c).isEmpty) = true := pick40 (fun k c r => (lev k 8).all fun h => lawHolds h (boxOf c r) == !((dueOf k c r).filter fun c => lawHolds h c).isEmpty) reach40_ok hk hb
  exact eq_of_beq (List.all_eq_true.mp z h hm)
/-! ### a ring of the law's acts as k steps of 1, or not at all -/
theorem put_old {l : List Hg} {x y : Hg} (h : x ∈ l) : x ∈ put l y := by
  unfold put
  split
  · exact h
  · exact List.mem_append_left _ h
theorem put_mem (l : List Hg) (y : Hg) : y ∈ put l y := by
  unfold put
  split
  · rename_i h; exact List.contains_iff_mem.mp h
  · exact List.mem_append_right _ List.mem_cons_self
theorem puts_old {γ : Type} {f : γ → Hg} {x : Hg} : ∀ {cs : List γ} {l : List Hg}, x ∈ l → x ∈ cs.foldl (fun a c => put a (f c)) l
  | [], _, h => h
  | c :: cs, l, h => puts_old (cs := cs) (put_old h)
theorem puts_mem {γ : Type} {f : γ → Hg} {c : γ} : ∀ {cs : List γ} {l : List Hg}, c ∈ cs → f c ∈ cs.foldl (fun a c => put a (f c)) l
  | d :: cs, l, h => by
    rw [List.foldl_cons]
    rcases List.mem_cons.mp h with e | h
    · rw [e]; exact puts_old (put_mem _ _)
    · exact puts_mem h
def letOne (k : Int) (a : List Hg) (h : Hg) : List Hg := (List.range k.toNat).foldl (fun a (c : Nat) => put a (grown h k 1 (c : Int))) (put a h)
theorem letOne_old {a : List Hg} {h x : Hg} (hx : x ∈ a) : x ∈ letOne k a h := puts_old (put_old hx)
theorem lets_old {x : Hg} : ∀ {l a : List Hg}, x ∈ a → x ∈ l.foldl (letOne k) a
  | [], _, h => h
  | c :: l, a, h => lets_old (l := l) (letOne_old h)
theorem lets_mem {x h : Hg} (hx : ∀ a, x ∈ letOne k a h) : ∀ {l a : List Hg}, h ∈ l → x ∈ l.foldl (letOne k) a
  | d :: l, a, hm => by
    rw [List.foldl_cons]
    rcases List.mem_cons.mp hm with e | hm
    · rw [← e]; exact lets_old (hx a)
    · exact lets_mem hx hm
theorem lev_same {n : Nat} {h : Hg} (hm : h ∈ lev k n) : h ∈ lev k (n + 1) := lets_mem (k := k) (fun a => puts_old (put_mem _ _)) hm
theorem lev_step {n : Nat} {h : Hg} {c : Int} (hm : h ∈ lev k n) (c0 : 0 ≤ c) (c1 : c < k) : grown h k 1 c ∈ lev k (n + 1) := by
  refine lets_mem (k := k) (h := h) (fun a => ?_) hm
  have e : c = ((c.toNat : Nat) : Int) := by omega
  rw [e]
  exact puts_mem (f := fun c : Nat => grown h k 1 (c : Int)) (List.mem_range.mpr (by omega))
theorem lev_up {n : Nat} {h : Hg} (hm : h ∈ lev k n) : ∀ j, h ∈ lev k (n + j)
  | 0 => hm
  | j + 1 => lev_same (lev_up hm j)
theorem enumI_snd : ∀ (h : Hg) (i : Int), (enumI i h).map (·.2) = h
  | [], _ => rfl
  | x :: r, i => by unfold enumI; rw [List.map_cons, enumI_snd r (i + 1)]
theorem risen_nil {h : Hg} (hp : ∀ x ∈ h, pos x = true) : risen h [] = h := by
  unfold risen
  have e : ((enumI 0 (h ++ [0])).map fun p => p.2 + b2 (([] : List Int).contains p.1)) = h ++ [0] := by
    conv => rhs; rw [← enumI_snd (h ++ [0]) 0]
    refine List.map_congr_left fun p _ => ?_
    show p.2 + 0 = p.2
    omega
  rw [e, List.filter_append, List.filter_eq_self.mpr hp]
  show h ++ [] = h
  rw [List.append_nil]
theorem risen_pos (h : Hg) (cols : List Int) : ∀ x ∈ risen h cols, pos x = true := fun x hx => (List.mem_filter.mp hx).2
theorem inv_at (hk : k ∈ ks) {s : Int} (s1 : 1 ≤ s) (sk : s < k) (g : Nat.gcd k.toNat s.toNat = 1) : ∃ t u : Int, s * t = 1 + k * u := by
  have z := List.all_eq_true.mp (pick5 (f := fun k => (List.range k.toNat).all fun s => !decide (Nat.gcd k.toNat s = 1) || (List.range k.toNat).any fun t => decide (((s : Int) * (t : Int) - 1) % k = 0)) inv5_ok hk) s.toNat (List.mem_range.mpr (by omega))
  rw [decide_eq_true g] at z
  have z : ((List.range k.toNat).any fun t => decide (((s.toNat : Int) * (t : Int) - 1) % k = 0)) = true := z
  obtain ⟨t, _, ht⟩ := List.any_eq_true.mp z
  have ht := of_decide_eq_true ht
  obtain ⟨u, hu⟩ := Int.dvd_of_emod_eq_zero ht
  refine ⟨t, u, ?_⟩
  rw [show s = ((s.toNat : Nat) : Int) by omega]
  omega
theorem acts (hk : k ∈ ks) {q : Int × Int} (hq : RingK k q) (p : Int) {h : Hg} (hp : ∀ x ∈ h, pos x = true) : grown h q.1 q.2 p = h ∨ ∃ c, 0 ≤ c ∧ c < k ∧ grown h q.1 q.2 p = grown h k 1 c := by
  obtain ⟨m, s, rfl, m1, m2, s1, sk, g⟩ := hq
  obtain ⟨k2, k6⟩ := ks_bd hk
  obtain ⟨t, u, hu⟩ := inv_at hk s1 sk g
  by_cases hm : m ∣ p
  · obtain ⟨p', rfl⟩ := hm
    refine .inr ⟨(p' * t) % k, Int.emod_nonneg _ (by omega), Int.emod_lt_of_pos _ (by omega), ?_⟩
    unfold grown
    congr 1
    refine List.filter_congr fun d _ => ?_
    unfold lets
    refine decide_eq_decide.mpr ?_
    show (diag h d * (m * s) - m * p') % (k * m) = 0 ↔ (diag h d * 1 - (p' * t) % k) % k = 0
    rw [← Int.dvd_iff_emod_eq_zero, ← Int.dvd_iff_emod_eq_zero]
    have e1 : diag h d * (m * s) - m * p' = m * (diag h d * s - p') := by rw [Int.mul_sub, Int.mul_left_comm]
    rw [e1, Int.mul_comm k m, Int.mul_dvd_mul_iff_left (by omega), Int.mul_one]
    have hmod : k ∣ (p' * t - (p' * t) % k) := ⟨p' * t / k, by have := Int.emod_add_mul_ediv (p' * t) k; omega⟩
    have e2 : (k ∣ (diag h d - (p' * t) % k)) ↔ k ∣ (diag h d - p' * t) := by
      have e3 : diag h d - (p' * t) % k = (diag h d - p' * t) + (p' * t - (p' * t) % k) := by omega
      rw [e3]
      exact ⟨fun z => (Int.dvd_add_left hmod).mp z, fun z => Int.dvd_add z hmod⟩
    rw [e2]
    constructor
    · rintro ⟨v, hv⟩
      refine ⟨t * v - diag h d * u, ?_⟩
      have e4 : (diag h d * s - p') * t = diag h d * (s * t) - p' * t := by rw [Int.sub_mul, Int.mul_assoc]
      rw [hv, hu] at e4
      have e5 : diag h d * (1 + k * u) = diag h d + k * (diag h d * u) := by rw [Int.mul_add, Int.mul_one, Int.mul_left_comm]
      rw [e5] at e4
      have e6 : k * (t * v - diag h d * u) = k * v * t - k * (diag h d * u) := by rw [Int.mul_sub, Int.mul_comm t v, Int.mul_assoc]
      rw [e6]; omega
    · rintro ⟨v, hv⟩
      refine ⟨s * v + p' * u, ?_⟩
      have e4 : (diag h d - p' * t) * s = diag h d * s - p' * (s * t) := by rw [Int.sub_mul, Int.mul_assoc, Int.mul_comm t s]
      rw [hv, hu] at e4
      have e5 : p' * (1 + k * u) = p' + k * (p' * u) := by rw [Int.mul_add, Int.mul_one, Int.mul_left_comm]
      rw [e5] at e4
      have e6 : k * (s * v + p' * u) = k * v * s + k * (p' * u) := by rw [Int.mul_add, Int.mul_comm s v, Int.mul_assoc]
      rw [e6]; omega
  · refine .inl ?_
    unfold grown
    have e : (addCols h).filter (lets h (k * m) (m * s) p) = [] := by
      refine List.filter_eq_nil_iff.mpr fun d _ z => hm ?_
      have z := of_decide_eq_true z
      have z2 : k * m ∣ diag h d * (m * s) - p := Int.dvd_of_emod_eq_zero z
      have z3 : m ∣ diag h d * (m * s) - p := Int.dvd_trans ⟨k, Int.mul_comm _ _⟩ z2
      have z4 : m ∣ diag h d * (m * s) := ⟨diag h d * s, by rw [Int.mul_left_comm]⟩
      have z5 := Int.dvd_sub z4 z3
      rw [show diag h d * (m * s) - (diag h d * (m * s) - p) = p by omega] at z5
      exact z5
    rw [e]
    exact risen_nil hp
theorem heap_lev (hk : k ∈ ks) : ∀ {zs : List ((Int × Int) × Int)} {h : Hg} {n : Nat}, (∀ z ∈ zs, RingK k z.1) → h ∈ lev k n → (∀ x ∈ h, pos x = true) → zs.foldl (fun h q => grown h q.1.1 q.1.2 q.2) h ∈ lev k (n + zs.length)
  | [], h, n, _, hm, _ => hm
  | z :: zs, h, n, hz, hm, hp => by
    rw [List.foldl_cons, List.length_cons, show n + (zs.length + 1) = (n + 1) + zs.length by omega]
    refine heap_lev hk (fun y hy => hz y (List.mem_cons_of_mem _ hy)) ?_ (risen_pos _ _)
    rcases acts hk (hz z List.mem_cons_self) z.2 hp with e | ⟨c, c0, c1, e⟩
    · rw [e]; exact lev_same hm
    · rw [e]; exact lev_step hm c0 c1
theorem heapOf_lev (hk : k ∈ ks) {l : List Lk} {ps : List Int} (hr : ∀ c ∈ l, RingK k c.2) (hl : l.length ≤ 8) : heapOf l ps ∈ lev k 8 := by
  unfold heapOf heapIn
  have h := heap_lev (k := k) hk (zs := (l.map (·.2)).zip ps) (h := []) (n := 0) (fun z hz => ?_) (List.mem_singleton.mpr rfl) (fun x hx => by cases hx)
  · have hz : ((l.map (·.2)).zip ps).length ≤ 8 := by rw [List.length_zip, List.length_map]; omega
    have u := lev_up h (8 - ((l.map (·.2)).zip ps).length)
    rw [show 0 + ((l.map (·.2)).zip ps).length + (8 - ((l.map (·.2)).zip ps).length) = 8 by omega] at u
    exact u
  · obtain ⟨h1, _⟩ := List.of_mem_zip hz
    obtain ⟨c, hc, e⟩ := List.mem_map.mp h1
    rw [← e]; exact hr c hc
end L2.Q67
namespace L2.Q67
open PySem PySem.Spec PyProof.Rows R67
def spRight : Sp := fun vs H Q _ => ∃ (a : Addr), vs = [.ref a] ∧ isDice H a ∧ ∀ H', But a H H' → isDice H' a → Q (.bl true) H'
abbrev sLright : Stmt := topS 62
theorem scLright : FnScope ["_law_dice_here", "_law_k", "_law_columns", "_law_rows", "_law_whole", "_law_due", "_law_fewest", "_law_chain", "_law_heap", "_law_core", "_law_l"] ["_law_dice_here"] (defScope sLright) := ⟨rfl, rfl, rfl, by decide +kernel, rfl, by decide +kernel, by decide +kernel⟩

abbrev slaw : Stmt := topS 63
theorem sclaw : FnScope ["_law_script", "_law_at", "_law_dice_here", "_law_turn"] ["_law_script"] (defScope slaw) := ⟨rfl, rfl, rfl, by decide +kernel, rfl, by decide +kernel, by decide +kernel⟩

theorem Cores.but {H H' : Hp} {a : Addr} {xs : List V} {cs : List Hg} (h : Cores H xs cs) (d : isDice H a) (b : But a H H') : Cores H' xs cs := Cores.keep h fun t ys e => b _ _ (dice_ne d e) e
theorem cores_ne_dice {H : Hp} {a p : Addr} {xs : List V} {cs : List Hg} (h : Cores H xs cs) (hne : cs ≠ []) (hp : H p = some (.lst xs)) (d : isDice H a) : p ≠ a := by
  rintro rfl
  obtain ⟨x, y, z, e⟩ := d
  rw [e] at hp
  cases hp
  cases h with
  | cons q _ =>
    obtain ⟨t, e, _⟩ := q
    cases e
section
variable {P : Program} {w : World} {K : PySem.W.Frag} {mg : Str → Option Value} {base : Heap}
theorem ok_right (B : Bi mg) (D : Here K mg "_law_right" sLright ["_law_dice_here"]) (d__law_roll : Ok P w K mg base 1 "_law_roll" ["_law_dice_here", "_law_total"] spRoll) (d__law_least : Ok P w K mg base 4 "_law_least" ["_law_k", "_law_whole", "_law_most"] spDue)
    (d_least_cores : Ok P w K mg base 6 "least_cores" ["k", "columns", "rows"] spLeast) (d_letters_of : Ok P w K mg base 5 "letters_of" ["k", "core"] spLettersOf) (d_least_letters : Ok P w K mg base 4 "least_letters" ["k", "columns", "rows"] spFewest)
    (d__law_equal_chain : Ok P w K mg base 4 "_law_equal_chain" ["_law_dice_here", "_law_rings", "_law_k"] spEqual) (d__law_tuple : Ok P w K mg base 2 "_law_tuple" ["_law_dice_here", "_law_chain"] spLTuple) (d_heap_of : Ok P w K mg base 6 "heap_of" ["chain", "places"] spHeapOf)
    (d__law_holds : Ok P w K mg base 1 "_law_holds" ["_law_heap", "_law_other"] spLHolds) : Ok P w K mg base 7 "_law_right" ["_law_dice_here"] spRight := by
  refine D.ok scLright (fun vs H Q E h => ?_) (fun f cdv A outer s H vs Q E hr h => ?_)
  · obtain ⟨a, rfl, _⟩ := h; rfl
  · obtain ⟨a, rfl, hd, q⟩ := h
    refine ⟨_, (pss_cons (ps_asg (pe_tup (pa_cons (pe_op op_add pe_int (pe_own d__law_roll hr (pa_cons (pv 0) (pa_cons pe_int pa_nil)))) (pa_cons (pe_op op_add pe_int (pe_own d__law_roll hr (pa_cons (pv 0) (pa_cons pe_int pa_nil)))) pa_nil))) (pg_tupK (n := 2) K rfl (pgs_cons (pg_name (i := 1) scLright.nd rfl (by first | exact Or.inl rfl | exact Or.inr rfl)) (pgs_cons (pg_name (i := 2) scLright.nd rfl (by first | exact Or.inl rfl | exact Or.inr rfl)) pgs_nil))))
      (pss_cons (ps_set (i := 3) scLright.nd rfl (.inr rfl) (pe_op op_add pe_int (pe_own d__law_roll hr (pa_cons (pv 0) (pa_cons (pe_ifExp (pt_cmpR op_lt (pv 2) pe_int (nomark _)) pe_int pe_int) pa_nil)))))
      (pss_cons (ps_set (i := 4) scLright.nd rfl (.inl rfl) (pe_op op_repA (pe_tup (pa_cons (pv 3) pa_nil)) (pv 2)))
      (pss_cons (ps_set (i := 5) scLright.nd rfl (.inl rfl) (pe_own d__law_least hr (pa_cons (pv 1) (pa_cons (pv 4) (pa_cons (pe_op op_mul (pv 2) (pv 3)) pa_nil)))))
      (pss_cons (ps_if (pt_cmpR (kNeD K hr.units) (pe_own d_least_cores hr (pa_cons (pv 1) (pa_cons (pv 2) (pa_cons (pv 3) pa_nil)))) (pe_callTy (kTupOf K) (by rfl) B.tuple bt_tuple (pa_cons (pv 5) pa_nil)) (nomark _)) (pss_one (ps_ret pe_bl)) pss_nil)
      (pss_cons (ps_set (i := 6) scLright.nd rfl (.inl rfl) (pe_callB (kMin K rfl) (by rfl) B.min bt_min (pa_cons (pe_lc (own := [("_law_core", 9)]) rfl scLright.nd (pi_listK K (pv 5)) (blkOk_by (N := ["_law_dice_here", "_law_k", "_law_columns", "_law_rows", "_law_whole", "_law_due", "_law_fewest", "_law_chain", "_law_heap", "_law_core", "_law_l"]) (sc := defScope sLright) (by decide +kernel)) (fun _ _ _ _ _ => (pg_name (i := 9) scLright.nd rfl (by first | exact Or.inl rfl | exact Or.inr rfl))) (fun _ _ _ _ _ => pts_nil) (fun _ _ _ _ _ => (pe_own d_letters_of hr (pa_cons (pv 1) (pa_cons (pv 9) pa_nil))))) pa_nil)))
      (pss_cons (ps_if (pt_cmpR op_ne (pe_own d_least_letters hr (pa_cons (pv 1) (pa_cons (pv 2) (pa_cons (pv 3) pa_nil)))) (pv 6) (nomark _)) (pss_one (ps_ret pe_bl)) pss_nil)
      (pss_cons (ps_if (pt_cmpR op_ne (pv 6) (pe_callB (kMin K rfl) (by rfl) B.min bt_min (pa_cons (pe_lc (own := [("_law_l", 10)]) rfl scLright.nd (pi_range1 rfl B.range (pa_cons (pe_callB (call_min2 rfl) (by rfl) B.min bt_min (pa_cons (pv 2) (pa_cons (pv 3) pa_nil))) pa_nil)) (blkOk_by (N := ["_law_dice_here", "_law_k", "_law_columns", "_law_rows", "_law_whole", "_law_due", "_law_fewest", "_law_chain", "_law_heap", "_law_core", "_law_l"]) (sc := defScope sLright) (by decide +kernel)) (fun _ _ _ _ _ => (pg_name (i := 10) scLright.nd rfl (by first | exact Or.inl rfl | exact Or.inr rfl))) (fun _ _ _ _ _ => pts_nil) (fun _ _ _ _ _ => (pe_op op_add (pe_op op_mul (pe_op op_sub (pv 2) (pv 10)) (pe_op op_sub (pv 3) (pv 10))) (pe_op op_mul (pv 10) (pv 1))))) pa_nil)) (nomark _)) (pss_one (ps_ret pe_bl)) pss_nil)
      (pss_cons (ps_set (i := 7) scLright.nd rfl (.inl rfl) (pe_own d__law_equal_chain hr (pa_cons (pv 0) (pa_cons (pe_op op_add pe_int (pe_own d__law_roll hr (pa_cons (pv 0) (pa_cons pe_int pa_nil)))) (pa_cons (pv 1) pa_nil)))))
      (pss_cons (ps_set (i := 8) scLright.nd rfl (.inr rfl) (pe_own d_heap_of hr (pa_cons (pv 7) (pa_cons (pe_own d__law_tuple hr (pa_cons (pv 0) (pa_cons (pv 7) pa_nil))) pa_nil))))
      (pss_one (ps_ret (pe_cmpR op_eq (pe_own d__law_holds hr (pa_cons (pv 8) (pa_cons (pv 4) pa_nil))) (pe_cmpR (kNeD K hr.units) (pe_lc (own := [("_law_core", 9)]) rfl scLright.nd (pi_listK K (pv 5)) (blkOk_by (N := ["_law_dice_here", "_law_k", "_law_columns", "_law_rows", "_law_whole", "_law_due", "_law_fewest", "_law_chain", "_law_heap", "_law_core", "_law_l"]) (sc := defScope sLright) (by decide +kernel)) (fun _ _ _ _ _ => (pg_name (i := 9) scLright.nd rfl (by first | exact Or.inl rfl | exact Or.inr rfl))) (fun _ _ _ _ _ => (pts_one (pt_val (pe_own d__law_holds hr (pa_cons (pv 8) (pa_cons (pv 9) pa_nil)))))) (fun _ _ _ _ _ => pe_int)) (pe_lst pa_nil) (nomark _)) (nomark _)))))))))))))), ?_⟩
    refine ⟨.ref a, rfl, a, 5, rfl, hd, by decide, by decide, fun H1 k' b1 d1 k0 k1 => ⟨2, k', rfl, rfl, .ref a, rfl, a, 3, rfl, d1, by decide, by decide, fun H2 c' b2 d2 c0 c1 => ⟨1, c', rfl, rfl, by show 2 ≤ sizeLine; decide, fun t nt => ?_⟩⟩⟩
    have st := sm_new (o := .tup [V.int (2 + k'), V.int (1 + c')]) nt
    refine ⟨t, _, rfl, .inl (.inl upd_same), rfl, _, _, rfl, _, _, rfl, rfl, ?_⟩
    obtain ⟨k, ek⟩ : ∃ k : Int, 2 + k' = k := ⟨_, rfl⟩
    obtain ⟨c, ec⟩ : ∃ c : Int, 1 + c' = c := ⟨_, rfl⟩
    dsimp only
    rw [ek, ec]
    rw [ek, ec] at st
    have hk : k ∈ ks := in_ks (by omega) (by omega)
    obtain ⟨k2, k6⟩ := ks_bd hk
    refine ⟨.ref a, rfl, te_of (.int (if c < 3 then 3 else 2)) (fun Q' q' => ?_) ?_⟩
    · refine ⟨.int c, rfl, c, 3, rfl, rfl, _, rfl, ite2 (fun z => ?_) (fun z => ?_)⟩
      · rw [if_pos (of_decide_eq_true z)] at q'; exact q'
      · rw [if_neg (fun y => z (decide_eq_true y))] at q'; exact q'
    have d2' := dice_same d2 st
    refine ⟨a, _, rfl, d2', by split <;> decide, by split <;> decide, fun H3 r' b3 d3 r0 r1 => ⟨1, r', rfl, rfl, ?_⟩⟩
    obtain ⟨r, er⟩ : ∃ r : Int, 1 + r' = r := ⟨_, rfl⟩
    dsimp only
    rw [er]
    have hb : (c, r) ∈ boxes := in_boxes (by omega) (by omega) (by omega) (by split at r1 <;> omega) (fun e => by rw [if_neg (by omega)] at r1; omega)
    obtain ⟨x1, x2, x3, x4, x5⟩ := box_bd hb
    dsimp only at x1 x2 x3 x4 x5
    have B3 : But a H H3 := but_trans b1 (but_trans b2 (but_trans (but_same st) b3))
    refine ⟨.int r, rfl, by show 1 ≤ sizeLine; decide, fun p np => ⟨.int c, rfl, p, c, [.int r], rfl, rfl, upd_same, by simp, x1, by omega, by simp, fun H4 g s4 e4 => ?_⟩⟩
    have s34 := (sm_new (o := .tup [V.int r]) np).trans s4
    have hg : H4 g = some (.tup ((boxOf c r).map V.int)) := by
      rw [e4]; unfold boxOf
      rw [List.map_replicate, List.flatten_replicate_singleton]
    obtain ⟨du1, du2, du3⟩ := core_due hk hb
    refine ⟨.int k, rfl, .ref g, rfl, .int c, rfl, .int r, rfl, c, r, rfl, rfl, .inl ⟨by omega, by omega⟩, k, c * r, g, boxOf c r, rfl, hg, Int.mul_nonneg (by omega) (by omega), due_ok hk hb, fun H5 D5 ys s5 e5 cy => ?_⟩
    have cy' : Cores H5 ys (dueOf k c r) := cy
    clear cy
    -- the least cores
    refine ⟨.int k, rfl, .int c, rfl, .int r, rfl, k, c, r, rfl, dw hk hb, found_ok hk hb, fun H6 t6 zs s6 e6 cz => ⟨.ref D5, rfl, D5, ys, rfl, .inl ⟨.inl (.inl (s6 _ _ e5)), fun t7 nt7 => ?_⟩⟩⟩
    have s7 := sm_new (o := .tup ys) nt7
    have c6 : Cores (upd H6 t7 (.tup ys)) zs (dueOf k c r) := by rw [← least_due hk hb]; exact Cores.same cz s7
    have c7 : Cores (upd H6 t7 (.tup ys)) ys (dueOf k c r) := Cores.same (Cores.same cy' s6) s7
    refine ⟨.tuple ((dueOf k c r).map coreD), .tuple ((dueOf k c r).map coreD), .tup (.inl (.inl (s7 _ _ e6))) (dp_cores c6), .tup (.inl (.inl upd_same)) (dp_cores c7), shp_tup _, shp_tup _, _, rfl, ?_⟩
    have ee : (!PyData.eqv (.tuple ((dueOf k c r).map coreD)) (.tuple ((dueOf k c r).map coreD))) = false := by rw [PyData.eqv, eqv_cores, decide_eq_true rfl]; rfl
    rw [ee]
    refine iteF ?_
    have s67 := s6.trans s7
    have e7 := s67 _ _ e5
    revert c7 e7 s67
    generalize upd H6 t7 (.tup ys) = H7
    intro c7 s67 e7
    obtain ⟨ps, rfl, eps, hps⟩ := tupF_list (F := fun c : Hg => c.map V.int) c7
    have hpl : ps.length ≤ 60 := by rw [← eps, List.length_map] at du2; exact du2
    have fine : ∀ p ∈ ps, heapOk p.2 = true ∧ isCore k p.2 = true := fun p hp => du3 _ (by rw [← eps]; exact List.mem_map.mpr ⟨p, hp, rfl⟩)
    have hDL : ∀ H', Same H7 H' → SqL K H' D5 (ps.map fun p => V.ref p.1) := fun H' s => .inl (.inl (s _ _ e7))
    -- the fewest letters
    refine ⟨.ref D5, rfl, D5, rfl, ⟨_, hDL _ (Same.refl _)⟩, fun L nL => ?_⟩
    refine lc_l (fun p : Addr × Hg => V.ref p.1) ps (fun p => some (.int (letters k p.2))) nL (by omega) (hDL _ (Same.refl _)) (fun i p H8 P1 P0 e s8 k1 k0 => ?_) fun H8 s8 e8 => ?_
    · have hp := hps p (mem_at e)
      obtain ⟨f1, f2⟩ := fine p (mem_at e)
      exact ⟨rfl, lc_yes ⟨.int k, rfl, .ref p.1, rfl, k, p.1, p.2, rfl, s8 _ _ hp, k2, by omega, f1, f2, fun H9 s9 => k1 _ _ rfl s9⟩⟩
    · rw [fm_some] at e8
      have em : ps.map (fun p => letters k p.2) = (dueOf k c r).map (letters k) := by rw [← eps, List.map_map]; rfl
      refine ⟨L, ps.map fun p => letters k p.2, rfl, .inl (.inl (by rw [e8, List.map_map]; rfl)), ?_, fun m hm hle => ?_⟩
      · rw [em, List.length_map]; exact List.length_pos_iff.mpr du1
      have em2 : m = fewest k c r := by rw [minI_is hm hle, em, few_due hk hb]
      rw [em2]
      refine ⟨.int k, rfl, .int c, rfl, .int r, rfl, k, c, r, rfl, dw hk hb, fun H9 s9 => ⟨.int (fewest k c r), rfl, rfl, _, rfl, ?_⟩⟩
      rw [decide_eq_true rfl]
      refine iteF ?_
      have emn : (if r < c then r else c) = min c r := by split <;> omega
      refine ⟨.int (fewest k c r), rfl, .int c, rfl, .int r, rfl, c, r, rfl, ?_⟩
      rw [emn]
      refine ⟨min c r, rfl, by omega, by omega, fun L2 nL2 => ?_⟩
      refine lc_r (lo := 0) (n := (min c r).toNat) (fun l => some (.int ((c - l) * (r - l) + l * k))) nL2 (by omega) (fun i l H2 P1 P0 el hi s2 k1 k0 => ?_) fun H10 s10 e10 => ?_
      · exact ⟨rfl, lc_yes ⟨.int c, rfl, .int l, rfl, _, _, rfl, rfl, .int r, rfl, .int l, rfl, _, _, rfl, rfl, _, _, rfl, rfl, .inl ⟨by omega, by omega⟩, .int l, rfl, .int k, rfl, _, _, rfl, rfl, .inl ⟨by omega, by omega⟩, _, _, rfl, rfl, k1 _ _ rfl (Same.refl _)⟩⟩
      · rw [fm_some] at e10
        refine ⟨L2, (rng 0 (min c r).toNat).map fun l => (c - l) * (r - l) + l * k, rfl, .inl (.inl (by rw [e10, List.map_map]; rfl)), ?_, fun m2 hm2 hle2 => ?_⟩
        · unfold rng; rw [List.length_map, List.length_map, List.length_range]; omega
        have em3 : m2 = fewest k c r := minI_is hm2 hle2
        rw [em3]
        refine ⟨rfl, _, rfl, ?_⟩
        rw [decide_eq_true rfl]
        refine iteF ?_
        have s710 : Same H7 H10 := s8.trans (s9.trans s10)
        have d10 : isDice H10 a := dice_same d3 (s34.trans (s5.trans (s67.trans s710)))
        have B10 : But a H H10 := but_trans B3 (but_same (s34.trans (s5.trans (s67.trans s710))))
        have hg10 := s710 _ _ (s67 _ _ (s5 _ _ hg))
        have eD := s710 _ _ e7
        have nD : D5 ≠ a := cores_ne_dice (Cores.same c7 s710) du1 eD d10
        -- the chain, the heap
        refine ⟨.ref a, rfl, .ref a, rfl, a, 8, rfl, d10, by decide, by decide, fun H11 g' b11 d11 g0 g1 => ⟨1, g', rfl, rfl, .int k, rfl, a, 1 + g', k, rfl, d11, by omega, by omega, k2, k6, fun H12 ch l b12 d12 hch hl hrk => ?_⟩⟩
        have hl8 : l.length ≤ 8 := by omega
        have cok : ChainOk l := ⟨by omega, by omega, fun x hx => by
          obtain ⟨m, s, e, m1, m2, s1, s2, _⟩ := hrk x hx
          have h1 : m = 1 ∨ m = 2 := by omega
          rw [e]
          rcases h1 with rfl | rfl <;> exact ⟨by dsimp only; omega, by dsimp only; omega, by dsimp only; omega, by dsimp only; omega⟩⟩
        refine ⟨.ref ch, rfl, .ref a, rfl, .ref ch, rfl, a, ch, l, rfl, d12, hch, cok, fun H13 pl pls b13 d13 hpl hpk => ?_⟩
        have hch13 : isChain H13 ch l := ⟨b13 _ _ (dice_ne d12 hch.1) hch.1, fun x hx => b13 _ _ (dice_ne d12 (hch.2 x hx)) (hch.2 x hx)⟩
        refine ⟨ch, pl, l, pls, rfl, hch13, cok, hpl, hpk, fun H14 hp s14 ehp => ?_⟩
        have hlev := heapOf_lev (ps := pls) hk hrk hl8
        have rr := reach hk hb hlev
        revert rr ehp
        generalize heapOf l pls = hh
        intro ehp rr
        have Bx : But a H10 H14 := but_trans b11 (but_trans b12 (but_trans b13 (but_same s14)))
        have d14 := dice_same d13 s14
        have hg14 := Bx _ _ (dice_ne d10 hg10) hg10
        have eD14 := Bx _ _ nD eD
        refine ⟨.ref hp, rfl, .ref g, rfl, hp, g, hh, boxOf c r, rfl, ehp, hg14, by unfold boxOf; rw [List.length_replicate]; omega, fun H15 s15 => ?_⟩
        refine ⟨.ref D5, rfl, D5, rfl, ⟨_, .inl (.inl (s15 _ _ eD14))⟩, fun L3 nL3 => ?_⟩
        refine lc_l (fun p : Addr × Hg => V.ref p.1) ps (fun p => if lawHolds hh p.2 = true then some (.int 1) else none) nL3 (by omega) (.inl (.inl (s15 _ _ eD14))) (fun j p H16 P1 P0 e s16 k1 k0 => ?_) fun H16 s16 e16 => ?_
        · have hp0 := hps p (mem_at e)
          have hp1 := s710 _ _ hp0
          have hp2 := Bx _ _ (dice_ne d10 hp1) hp1
          have bd := (heapOk_bd (fine p (mem_at e)).1).1
          refine ⟨rfl, .ref hp, rfl, .ref p.1, rfl, hp, p.1, hh, p.2, rfl, s16 _ _ (s15 _ _ ehp), s16 _ _ (s15 _ _ hp2), by omega, fun H17 s17 => ⟨_, rfl, ite2 (fun z => ?_) (fun z => ?_)⟩⟩
          · exact k1 _ _ (if_pos z) s17
          · exact k0 _ (if_neg z) s17
        · rw [fm_if (fun p : Addr × Hg => lawHolds hh p.2) (fun _ => V.int 1) ps, map_one] at e16
          refine ⟨Nat.zero_le _, fun E2 nE2 => ?_⟩
          have sE := sm_new (o := .lst []) nE2
          refine ⟨_, .list (([] : Hg).map PyData.int), .lst (.inl (.inl (sE _ _ e16))) (dp_ints _), .lst (.inl (.inl upd_same)) (dp_ints []), shp_ints _, shp_ints [], rfl, ?_⟩
          rw [eqv_none]
          have e6 : (ps.filter fun p => lawHolds hh p.2).isEmpty = ((dueOf k c r).filter fun o => lawHolds hh o).isEmpty := by
            rw [← eps, List.filter_map, List.isEmpty_map]; rfl
          rw [e6, ← rr, decide_eq_true rfl]
          exact q _ (but_trans B10 (but_trans Bx (but_same (s15.trans (s16.trans sE))))) (dice_same d14 (s15.trans (s16.trans sE)))
end
end L2.Q67
namespace L2.Q67
open PySem PySem.Spec PyProof.Rows R67
def spLawK (K : PySem.W.Frag) : Sp := fun vs H Q _ => ∃ (a : Addr) (ns : List Int), vs = [.ref a] ∧ SqL K H a (ns.map V.int) ∧ ns.length ≤ 63 ∧ ∀ H', Q (.bl true) H'
theorem same_but {H0 H H' : Hp} {a : Addr} (s : Same H0 H) (n : H0 a = none) (b : But a H H') : Same H0 H' := fun t o e => b _ _ (ne_of_none e n) (s _ _ e)
section
variable {P : Program} {w : World} {K : PySem.W.Frag} {mg : Str → Option Value} {base : Heap}
theorem ok_law {f : Addr} {fd : FuncData} (B : Bi mg) (F : Fun K "law" "law" slaw f fd) (d__law_dice : Ok P w K mg base 1 "_law_dice" ["_law_script", "_law_at"] (spDiceK K)) (d__law_right : Ok P w K mg base 7 "_law_right" ["_law_dice_here"] spRight) : FnOk P w K mg base CX0 8 f fd ["_law_script"] (spLawK K) := by
  refine F.ok sclaw (fun vs H Q E h => ?_) (fun cdv A outer s H vs Q E hr h => ?_)
  · obtain ⟨a, ns, rfl, _⟩ := h; rfl
  · obtain ⟨a, ns, rfl, hs, hl, q⟩ := h
    refine ⟨_, (pss_cons (ps_for PassesOwn.never rfl (pi_range1 rfl B.range (pa_cons (pe_callB (call_max2 rfl) (by rfl) B.max bt_max (pa_cons pe_int (pa_cons (pe_callB (call_min2 rfl) (by rfl) B.min bt_min (pa_cons pe_int (pa_cons (pe_callB (kLen K) (by rfl) B.len PySem.boot_len (pa_cons (pv 0) pa_nil)) pa_nil))) pa_nil))) pa_nil)) (pg_name (i := 1) sclaw.nd rfl (by first | exact Or.inl rfl | exact Or.inr rfl))
        (pss_cons (ps_set (i := 2) sclaw.nd rfl (.inl rfl) (pe_own d__law_dice hr (pa_cons (pv 0) (pa_cons (pv 1) pa_nil))))
      (pss_one (ps_for PassesOwn.never rfl (pi_range1 rfl B.range (pa_cons pe_int pa_nil)) (pg_name (i := 3) sclaw.nd rfl (by first | exact Or.inl rfl | exact Or.inr rfl))
        (pss_one (ps_if (pt_not (pt_val (pe_own d__law_right hr (pa_cons (pv 2) pa_nil)))) (pss_one (ps_ret pe_bl)) pss_nil))))))
      (pss_one (ps_ret pe_bl))), ?_⟩
    have hl2 : ((ns.map V.int).length : Int) = ns.length := by rw [List.length_map]
    refine ⟨.ref a, rfl, a, _, rfl, .inl hs, 3, _, rfl, 1, _, rfl, ?_⟩
    rw [hl2]
    have hm : ∃ m : Nat, m ≤ 3 ∧ (if (1 : Int) < (if (ns.length : Int) < 3 then (ns.length : Int) else 3) then (if (ns.length : Int) < 3 then (ns.length : Int) else 3) else 1) = (m : Int) := by
      refine ⟨(if (1 : Int) < (if (ns.length : Int) < 3 then (ns.length : Int) else 3) then (if (ns.length : Int) < 3 then (ns.length : Int) else 3) else 1).toNat, ?_, ?_⟩ <;> split <;> split <;> omega
    obtain ⟨m, m3, em⟩ := hm
    refine ⟨_, congrArg (fun z => [V.int z]) em, by omega, by omega, ?_⟩
    rw [show ((m : Int)).toNat = m from rfl]
    refine for_it (walk_range (lo := 0) (n := m)) (fun i σ H' => Same H H' ∧ ∃ y1 y2 y3 : Option V, σ = [some (.ref a), y1, y2, y3]) ⟨Same.refl _, none, none, none, rfl⟩ (fun _ _ _ _ _ => trivial) (fun i x σ H0 H2 hi p y => ?_) fun σ H2 p => ?_
    · obtain ⟨s2, y1, y2, y3, rfl⟩ := p
      obtain ⟨rfl, rfl⟩ := y
      refine ⟨.ref a, rfl, .int (0 + (i : Nat)), rfl, a, 0 + (i : Nat), ns, rfl, s2.seq hs, by omega, by omega, fun H3 p s3 np dp => ?_⟩
      have np0 : H p = none := s2.free np
      refine ⟨2, rfl, by decide, by decide, ?_⟩
      refine for_it (walk_range (lo := 0) (n := (2 : Int).toNat)) (fun i' σ H' => Same H H' ∧ isDice H' p ∧ ∃ y1 y3 : Option V, σ = [some (.ref a), y1, some (.ref p), y3]) ⟨s2.trans s3, dp, _, _, rfl⟩ (fun _ _ _ _ _ => trivial) (fun j x σ H0 H4 hj z y => ?_) fun σ H4 z => ?_
      · obtain ⟨s4, d4, y1, y3, rfl⟩ := z
        obtain ⟨rfl, rfl⟩ := y
        refine ⟨.ref p, rfl, p, rfl, d4, fun H5 b5 d5 => ⟨_, rfl, iteF ?_⟩⟩
        exact ⟨same_but s4 np0 b5, d5, _, _, rfl⟩
      · obtain ⟨s4, d4, y1, y3, rfl⟩ := z
        exact ⟨s4, _, _, _, rfl⟩
    · exact q _
end
end L2.Q67
namespace L2.Q67
open PySem PySem.Spec PyProof.Rows R67
/-- the def x stands in the written part as st -/
structure DefIn (K : PySem.W.Frag) (x : Str) (st : Stmt) : Prop where
  ex : ∃ (f : Addr) (oc kV dc pm cd ct : Value) (od an : Option Addr) (sl : Array (Option Value)), PySem.W.nsIn K mainGlobals x = some (some (.ref f)) ∧
    K.lookup f = some ⟨oc, od, .func (PySem.W.fnOf x x (defArgs st) (defBody st) (defScope st) .none kV dc pm an cd ct), sl⟩ ∧ PySem.W.codeIn K cd x = true ∧ PySem.W.keepIn K (.ref f) = true
theorem def_in {K : PySem.W.Frag} {x : Str} {st : Stmt} {f : Addr} {oc kV dc pm cd ct : Value} {od an : Option Addr} {sl : Array (Option Value)} (a : PySem.W.nsIn K mainGlobals x = some (some (.ref f)))
    (l : K.lookup f = some ⟨oc, od, .func (PySem.W.fnOf x x (defArgs st) (defBody st) (defScope st) .none kV dc pm an cd ct), sl⟩) (c : PySem.W.codeIn K cd x = true) (k : PySem.W.keepIn K (.ref f) = true) : DefIn K x st :=
  ⟨f, oc, kV, dc, pm, cd, ct, od, an, sl, a, l, c, k⟩
theorem cn_in {K : PySem.W.Frag} {x : Str} {i : Int} {t : Tok} (h : PySem.W.nsIn K mainGlobals x = some (some (.int i t))) : ∃ t, PySem.W.nsIn K mainGlobals x = some (some (.int i t)) := ⟨t, h⟩
theorem here_of {K : PySem.W.Frag} {h : Heap} {mg : Str → Option Value} {x : Str} {st : Stmt} {ps : List Str} (X : K.In h) (G : h.Ns mainGlobals mg) (d : DefIn K x st)
    (b : ∀ (kV doc pm : Value) (an : Option Addr) (cdv ct : Value) (us : List Value), us.length = ps.length → bindArgs (PySem.W.fnOf x x (defArgs st) (defBody st) (defScope st) .none kV doc pm an cdv ct) ⟨us, []⟩ = pure (ps.zip us)) : Here K mg x st ps := by
  obtain ⟨f, oc, kV, dc, pm, cd, ct, od, an, sl, ha, hl, hc, hk⟩ := d.ex
  have F := fun_mk (st := st) hl hc hk
  exact ⟨f, _, PySem.W.mg_of X G ha, F, F.binds b⟩
theorem all_mk {P : Program} {w : World} {K : PySem.W.Frag} {h : Heap} {mg : Str → Option Value} {fa : Addr} (X : K.In h) (G : h.Ns mainGlobals mg) (hfa : mg "law" = some (.ref fa)) (e_is_whole : DefIn K "is_whole" sis_whole) (e_is_within : DefIn K "is_within" sis_within) (e_is_ring_in : DefIn K "is_ring_in" sis_ring_in) (e_is_chain_in : DefIn K "is_chain_in" sis_chain_in) (e_require_chain : DefIn K "require_chain" srequire_chain) (e_is_tuple_in : DefIn K "is_tuple_in" sis_tuple_in) (e_require_tuple : DefIn K "require_tuple" srequire_tuple) (e_is_heap_in : DefIn K "is_heap_in" sis_heap_in) (e_box_in : DefIn K "box_in" sbox_in) (e_holds_in : DefIn K "holds_in" sholds_in) (e_flipped_in : DefIn K "flipped_in" sflipped_in) (e_addable_columns : DefIn K "addable_columns" saddable_columns) (e_can_add_in : DefIn K "can_add_in" scan_add_in) (e_risen : DefIn K "risen" srisen) (e_grown_in : DefIn K "grown_in" sgrown_in) (e_heaps_in : DefIn K "heaps_in" sheaps_in) (e_heap_in : DefIn K "heap_in" sheap_in) (e_heap_of : DefIn K "heap_of" sheap_of) (e_bead_list : DefIn K "bead_list" sbead_list) (e_is_core_in : DefIn K "is_core_in" sis_core_in) (e_bounded_parts_in : DefIn K "bounded_parts_in" sbounded_parts_in) (e_letters_in : DefIn K "letters_in" sletters_in) (e_require_order : DefIn K "require_order" srequire_order) (e_require_core : DefIn K "require_core" srequire_core) (e_letters_of : DefIn K "letters_of" sletters_of) (e_with_letter_in : DefIn K "with_letter_in" swith_letter_in) (e_cores_that_hold : DefIn K "cores_that_hold" scores_that_hold) (e_least_cores_in : DefIn K "least_cores_in" sleast_cores_in) (e_require_box_sides : DefIn K "require_box_sides" srequire_box_sides) (e_least_cores : DefIn K "least_cores" sleast_cores) (e_least_letters : DefIn K "least_letters" sleast_letters) (e__law_dice : DefIn K "_law_dice" sLdice) (e__law_roll : DefIn K "_law_roll" sLroll) (e__law_one_of : DefIn K "_law_one_of" sLone_of) (e__law_common : DefIn K "_law_common" sLcommon) (e__law_ring_of : DefIn K "_law_ring_of" sLring_of) (e__law_equal_chain : DefIn K "_law_equal_chain" sLequal_chain) (e__law_tuple : DefIn K "_law_tuple" sLtuple) (e__law_rests_up : DefIn K "_law_rests_up" sLrests_up) (e__law_behind : DefIn K "_law_behind" sLbehind) (e__law_holds : DefIn K "_law_holds" sLholds) (e__law_layers : DefIn K "_law_layers" sLlayers) (e__law_least : DefIn K "_law_least" sLleast) (e__law_right : DefIn K "_law_right" sLright) (e_law : DefIn K "law" slaw) (z_len : PySem.W.nsIn K mainGlobals "len" = some none) (z_range : PySem.W.nsIn K mainGlobals "range" = some none) (z_zip : PySem.W.nsIn K mainGlobals "zip" = some none) (z_all : PySem.W.nsIn K mainGlobals "all" = some none) (z_any : PySem.W.nsIn K mainGlobals "any" = some none) (z_isinstance : PySem.W.nsIn K mainGlobals "isinstance" = some none) (z_tuple : PySem.W.nsIn K mainGlobals "tuple" = some none) (z_sorted : PySem.W.nsIn K mainGlobals "sorted" = some none) (z_enumerate : PySem.W.nsIn K mainGlobals "enumerate" = some none) (z_max : PySem.W.nsIn K mainGlobals "max" = some none) (z_min : PySem.W.nsIn K mainGlobals "min" = some none) (z_sum : PySem.W.nsIn K mainGlobals "sum" = some none) (z_list : PySem.W.nsIn K mainGlobals "list" = some none) (z_int : PySem.W.nsIn K mainGlobals "int" = some none) (z_bool : PySem.W.nsIn K mainGlobals "bool" = some none) (z_abs : PySem.W.nsIn K mainGlobals "abs" = some none) (c_MOST_RINGS : ∃ t, PySem.W.nsIn K mainGlobals "MOST_RINGS" = some (some (.int 12 t))) (c_MOST_PLACES : ∃ t, PySem.W.nsIn K mainGlobals "MOST_PLACES" = some (some (.int 60 t))) (c_MOST_SIDE : ∃ t, PySem.W.nsIn K mainGlobals "MOST_SIDE" = some (some (.int 60 t))) (c_LEAST_ORDER : ∃ t, PySem.W.nsIn K mainGlobals "LEAST_ORDER" = some (some (.int 2 t))) (c_MAX_ORDER : ∃ t, PySem.W.nsIn K mainGlobals "MAX_ORDER" = some (some (.int 60 t))) (c_MAX_BOX : ∃ t, PySem.W.nsIn K mainGlobals "MAX_BOX" = some (some (.int 16 t))) :
    ∃ fd : FuncData, (∀ (s : Shared) (v : Value), BindsTo s fd ⟨[v], []⟩ [("_law_script", v)]) ∧ ∀ base : Heap, K.In base → base.Ns mainGlobals mg → FnOk P w K mg base CX0 8 fa fd ["_law_script"] (spLawK K) := by
  obtain ⟨f, oc, kV, dc, pm, cd, ct, od, an, sl, ha, hl, hc, hk⟩ := e_law.ex
  have e := hfa.symm.trans (PySem.W.mg_of X G ha)
  cases e
  have F := fun_mk (st := slaw) hl hc hk
  have B : Bi mg := ⟨PySem.W.mg_none_of X G z_len, PySem.W.mg_none_of X G z_range, PySem.W.mg_none_of X G z_zip, PySem.W.mg_none_of X G z_all, PySem.W.mg_none_of X G z_any, PySem.W.mg_none_of X G z_isinstance, PySem.W.mg_none_of X G z_tuple, PySem.W.mg_none_of X G z_sorted, PySem.W.mg_none_of X G z_enumerate, PySem.W.mg_none_of X G z_max, PySem.W.mg_none_of X G z_min, PySem.W.mg_none_of X G z_sum, PySem.W.mg_none_of X G z_list, PySem.W.mg_none_of X G z_int, PySem.W.mg_none_of X G z_bool, PySem.W.mg_none_of X G z_abs⟩
  have C : Cn mg := ⟨c_MOST_RINGS.imp fun _ e => PySem.W.mg_of X G e, c_MOST_PLACES.imp fun _ e => PySem.W.mg_of X G e, c_MOST_SIDE.imp fun _ e => PySem.W.mg_of X G e, c_LEAST_ORDER.imp fun _ e => PySem.W.mg_of X G e, c_MAX_ORDER.imp fun _ e => PySem.W.mg_of X G e, c_MAX_BOX.imp fun _ e => PySem.W.mg_of X G e⟩
  have h_is_whole : Here K mg "is_whole" sis_whole ["value"] := here_of X G e_is_whole fun _ _ _ _ _ _ us hl => match us, hl with | [_], _ => rfl
  have h_is_within : Here K mg "is_within" sis_within ["value", "least", "most"] := here_of X G e_is_within fun _ _ _ _ _ _ us hl => match us, hl with | [_, _, _], _ => rfl
  have h_is_ring_in : Here K mg "is_ring_in" sis_ring_in ["value"] := here_of X G e_is_ring_in fun _ _ _ _ _ _ us hl => match us, hl with | [_], _ => rfl
  have h_is_chain_in : Here K mg "is_chain_in" sis_chain_in ["value"] := here_of X G e_is_chain_in fun _ _ _ _ _ _ us hl => match us, hl with | [_], _ => rfl
  have h_require_chain : Here K mg "require_chain" srequire_chain ["value"] := here_of X G e_require_chain fun _ _ _ _ _ _ us hl => match us, hl with | [_], _ => rfl
  have h_is_tuple_in : Here K mg "is_tuple_in" sis_tuple_in ["chain", "value"] := here_of X G e_is_tuple_in fun _ _ _ _ _ _ us hl => match us, hl with | [_, _], _ => rfl
  have h_require_tuple : Here K mg "require_tuple" srequire_tuple ["chain", "value"] := here_of X G e_require_tuple fun _ _ _ _ _ _ us hl => match us, hl with | [_, _], _ => rfl
  have h_is_heap_in : Here K mg "is_heap_in" sis_heap_in ["value"] := here_of X G e_is_heap_in fun _ _ _ _ _ _ us hl => match us, hl with | [_], _ => rfl
  have h_box_in : Here K mg "box_in" sbox_in ["columns", "rows"] := here_of X G e_box_in fun _ _ _ _ _ _ us hl => match us, hl with | [_, _], _ => rfl
  have h_holds_in : Here K mg "holds_in" sholds_in ["heap", "other"] := here_of X G e_holds_in fun _ _ _ _ _ _ us hl => match us, hl with | [_, _], _ => rfl
  have h_flipped_in : Here K mg "flipped_in" sflipped_in ["heap"] := here_of X G e_flipped_in fun _ _ _ _ _ _ us hl => match us, hl with | [_], _ => rfl
  have h_addable_columns : Here K mg "addable_columns" saddable_columns ["heap"] := here_of X G e_addable_columns fun _ _ _ _ _ _ us hl => match us, hl with | [_], _ => rfl
  have h_can_add_in : Here K mg "can_add_in" scan_add_in ["heap"] := here_of X G e_can_add_in fun _ _ _ _ _ _ us hl => match us, hl with | [_], _ => rfl
  have h_risen : Here K mg "risen" srisen ["heap", "columns"] := here_of X G e_risen fun _ _ _ _ _ _ us hl => match us, hl with | [_, _], _ => rfl
  have h_grown_in : Here K mg "grown_in" sgrown_in ["heap", "ring", "place"] := here_of X G e_grown_in fun _ _ _ _ _ _ us hl => match us, hl with | [_, _, _], _ => rfl
  have h_heaps_in : Here K mg "heaps_in" sheaps_in ["chain", "places"] := here_of X G e_heaps_in fun _ _ _ _ _ _ us hl => match us, hl with | [_, _], _ => rfl
  have h_heap_in : Here K mg "heap_in" sheap_in ["chain", "places"] := here_of X G e_heap_in fun _ _ _ _ _ _ us hl => match us, hl with | [_, _], _ => rfl
  have h_heap_of : Here K mg "heap_of" sheap_of ["chain", "places"] := here_of X G e_heap_of fun _ _ _ _ _ _ us hl => match us, hl with | [_, _], _ => rfl
  have h_bead_list : Here K mg "bead_list" sbead_list ["heap"] := here_of X G e_bead_list fun _ _ _ _ _ _ us hl => match us, hl with | [_], _ => rfl
  have h_is_core_in : Here K mg "is_core_in" sis_core_in ["k", "heap"] := here_of X G e_is_core_in fun _ _ _ _ _ _ us hl => match us, hl with | [_, _], _ => rfl
  have h_bounded_parts_in : Here K mg "bounded_parts_in" sbounded_parts_in ["k", "core"] := here_of X G e_bounded_parts_in fun _ _ _ _ _ _ us hl => match us, hl with | [_, _], _ => rfl
  have h_letters_in : Here K mg "letters_in" sletters_in ["k", "core"] := here_of X G e_letters_in fun _ _ _ _ _ _ us hl => match us, hl with | [_, _], _ => rfl
  have h_require_order : Here K mg "require_order" srequire_order ["k"] := here_of X G e_require_order fun _ _ _ _ _ _ us hl => match us, hl with | [_], _ => rfl
  have h_require_core : Here K mg "require_core" srequire_core ["k", "core"] := here_of X G e_require_core fun _ _ _ _ _ _ us hl => match us, hl with | [_, _], _ => rfl
  have h_letters_of : Here K mg "letters_of" sletters_of ["k", "core"] := here_of X G e_letters_of fun _ _ _ _ _ _ us hl => match us, hl with | [_, _], _ => rfl
  have h_with_letter_in : Here K mg "with_letter_in" swith_letter_in ["k", "core", "letter"] := here_of X G e_with_letter_in fun _ _ _ _ _ _ us hl => match us, hl with | [_, _, _], _ => rfl
  have h_cores_that_hold : Here K mg "cores_that_hold" scores_that_hold ["k", "goal"] := here_of X G e_cores_that_hold fun _ _ _ _ _ _ us hl => match us, hl with | [_, _], _ => rfl
  have h_least_cores_in : Here K mg "least_cores_in" sleast_cores_in ["k", "goal"] := here_of X G e_least_cores_in fun _ _ _ _ _ _ us hl => match us, hl with | [_, _], _ => rfl
  have h_require_box_sides : Here K mg "require_box_sides" srequire_box_sides ["columns", "rows"] := here_of X G e_require_box_sides fun _ _ _ _ _ _ us hl => match us, hl with | [_, _], _ => rfl
  have h_least_cores : Here K mg "least_cores" sleast_cores ["k", "columns", "rows"] := here_of X G e_least_cores fun _ _ _ _ _ _ us hl => match us, hl with | [_, _, _], _ => rfl
  have h_least_letters : Here K mg "least_letters" sleast_letters ["k", "columns", "rows"] := here_of X G e_least_letters fun _ _ _ _ _ _ us hl => match us, hl with | [_, _, _], _ => rfl
  have h__law_dice : Here K mg "_law_dice" sLdice ["_law_script", "_law_at"] := here_of X G e__law_dice fun _ _ _ _ _ _ us hl => match us, hl with | [_, _], _ => rfl
  have h__law_roll : Here K mg "_law_roll" sLroll ["_law_dice_here", "_law_total"] := here_of X G e__law_roll fun _ _ _ _ _ _ us hl => match us, hl with | [_, _], _ => rfl
  have h__law_one_of : Here K mg "_law_one_of" sLone_of ["_law_dice_here", "_law_items"] := here_of X G e__law_one_of fun _ _ _ _ _ _ us hl => match us, hl with | [_, _], _ => rfl
  have h__law_common : Here K mg "_law_common" sLcommon ["_law_one", "_law_other"] := here_of X G e__law_common fun _ _ _ _ _ _ us hl => match us, hl with | [_, _], _ => rfl
  have h__law_ring_of : Here K mg "_law_ring_of" sLring_of ["_law_dice_here", "_law_k", "_law_times"] := here_of X G e__law_ring_of fun _ _ _ _ _ _ us hl => match us, hl with | [_, _, _], _ => rfl
  have h__law_equal_chain : Here K mg "_law_equal_chain" sLequal_chain ["_law_dice_here", "_law_rings", "_law_k"] := here_of X G e__law_equal_chain fun _ _ _ _ _ _ us hl => match us, hl with | [_, _, _], _ => rfl
  have h__law_tuple : Here K mg "_law_tuple" sLtuple ["_law_dice_here", "_law_chain"] := here_of X G e__law_tuple fun _ _ _ _ _ _ us hl => match us, hl with | [_, _], _ => rfl
  have h__law_rests_up : Here K mg "_law_rests_up" sLrests_up ["_law_heap", "_law_k"] := here_of X G e__law_rests_up fun _ _ _ _ _ _ us hl => match us, hl with | [_, _], _ => rfl
  have h__law_behind : Here K mg "_law_behind" sLbehind ["_law_heap", "_law_k", "_law_letter"] := here_of X G e__law_behind fun _ _ _ _ _ _ us hl => match us, hl with | [_, _, _], _ => rfl
  have h__law_holds : Here K mg "_law_holds" sLholds ["_law_heap", "_law_other"] := here_of X G e__law_holds fun _ _ _ _ _ _ us hl => match us, hl with | [_, _], _ => rfl
  have h__law_layers : Here K mg "_law_layers" sLlayers ["_law_k", "_law_most"] := here_of X G e__law_layers fun _ _ _ _ _ _ us hl => match us, hl with | [_, _], _ => rfl
  have h__law_least : Here K mg "_law_least" sLleast ["_law_k", "_law_whole", "_law_most"] := here_of X G e__law_least fun _ _ _ _ _ _ us hl => match us, hl with | [_, _, _], _ => rfl
  have h__law_right : Here K mg "_law_right" sLright ["_law_dice_here"] := here_of X G e__law_right fun _ _ _ _ _ _ us hl => match us, hl with | [_], _ => rfl
  refine ⟨PySem.W.fnOf "law" "law" (defArgs slaw) (defBody slaw) (defScope slaw) .none kV dc pm an cd ct, fun s v => .of_eq rfl, fun base _ _ => ?_⟩
  have d__law_dice := ok_dice (P := P) (w := w) (base := base) B h__law_dice
  have d__law_roll := ok_roll (P := P) (w := w) (base := base) B h__law_roll
  have d__law_rests_up := ok_rests (P := P) (w := w) (base := base) B h__law_rests_up
  have d__law_behind := ok_behind (P := P) (w := w) (base := base) B h__law_behind d__law_rests_up
  have d__law_layers := ok_layers (P := P) (w := w) (base := base) B h__law_layers d__law_rests_up d__law_behind
  have d__law_holds := ok_lholds (P := P) (w := w) (base := base) B h__law_holds
  have d__law_least := ok_due (P := P) (w := w) (base := base) B h__law_least d__law_layers d__law_holds
  have d_is_whole := ok_whole (P := P) (w := w) (base := base) B h_is_whole
  have d_is_within := ok_within (P := P) (w := w) (base := base) B h_is_within d_is_whole
  have d_require_order := ok_order (P := P) (w := w) (base := base) C h_require_order d_is_within
  have d_require_box_sides := ok_sides (P := P) (w := w) (base := base) C h_require_box_sides d_is_within
  have d_holds_in := ok_holds (P := P) (w := w) (base := base) B h_holds_in
  have d_flipped_in := ok_flip (P := P) (w := w) (base := base) B h_flipped_in
  have d_bounded_parts_in := ok_parts (P := P) (w := w) (base := base) B h_bounded_parts_in d_flipped_in
  have d_letters_in := ok_letters (P := P) (w := w) (base := base) B h_letters_in d_bounded_parts_in
  have d_addable_columns := ok_add (P := P) (w := w) (base := base) B h_addable_columns
  have d_can_add_in := ok_can (P := P) (w := w) (base := base) B h_can_add_in d_addable_columns
  have d_risen := ok_risen (P := P) (w := w) (base := base) B h_risen
  have d_grown_in := ok_grown (P := P) (w := w) (base := base) B h_grown_in d_addable_columns d_risen
  have d_with_letter_in := ok_with (P := P) (w := w) (base := base) h_with_letter_in d_grown_in
  have d_cores_that_hold := ok_that (P := P) (w := w) (base := base) B h_cores_that_hold d_holds_in d_letters_in d_can_add_in d_with_letter_in
  have d_least_cores_in := ok_leastIn (P := P) (w := w) (base := base) B h_least_cores_in d_cores_that_hold d_holds_in
  have d_box_in := ok_box (P := P) (w := w) (base := base) h_box_in
  have d_least_cores := ok_least (P := P) (w := w) (base := base) h_least_cores d_require_order d_require_box_sides d_least_cores_in d_box_in
  have d_is_heap_in := ok_heap (P := P) (w := w) (base := base) B C h_is_heap_in d_is_within
  have d_bead_list := ok_beads (P := P) (w := w) (base := base) B h_bead_list
  have d_is_core_in := ok_coreIn (P := P) (w := w) (base := base) B h_is_core_in d_bead_list
  have d_require_core := ok_reqCore (P := P) (w := w) (base := base) h_require_core d_require_order d_is_heap_in d_is_core_in
  have d_letters_of := ok_lettersOf (P := P) (w := w) (base := base) h_letters_of d_require_core d_letters_in
  have d_least_letters := ok_fewest (P := P) (w := w) (base := base) B h_least_letters d_require_order d_require_box_sides
  have d__law_one_of := ok_oneOf (P := P) (w := w) (base := base) B h__law_one_of d__law_roll
  have d__law_common := ok_common (P := P) (w := w) (base := base) h__law_common
  have d__law_ring_of := ok_ringOf (P := P) (w := w) (base := base) B h__law_ring_of d__law_roll d__law_one_of d__law_common
  have d__law_equal_chain := ok_equal (P := P) (w := w) (base := base) B h__law_equal_chain d__law_ring_of
  have d__law_tuple := ok_ltuple (P := P) (w := w) (base := base) B h__law_tuple d__law_roll
  have d_is_ring_in := ok_ring (P := P) (w := w) (base := base) B C h_is_ring_in d_is_within
  have d_is_chain_in := ok_chain (P := P) (w := w) (base := base) B C h_is_chain_in d_is_ring_in
  have d_require_chain := ok_reqChain (P := P) (w := w) (base := base) h_require_chain d_is_chain_in
  have d_is_tuple_in := ok_tuple (P := P) (w := w) (base := base) B C h_is_tuple_in d_is_within
  have d_require_tuple := ok_reqTuple (P := P) (w := w) (base := base) h_require_tuple d_is_tuple_in
  have d_heaps_in := ok_heaps (P := P) (w := w) (base := base) B h_heaps_in d_grown_in
  have d_heap_in := ok_heapIn (P := P) (w := w) (base := base) h_heap_in d_heaps_in
  have d_heap_of := ok_heapOf (P := P) (w := w) (base := base) h_heap_of d_require_chain d_require_tuple d_heap_in
  have d__law_right := ok_right (P := P) (w := w) (base := base) B h__law_right d__law_roll d__law_least d_least_cores d_letters_of d_least_letters d__law_equal_chain d__law_tuple d_heap_of d__law_holds
  exact ok_law B F d__law_dice d__law_right
end L2.Q67
open PySem PySem.W PyProof.Rows
set_option maxRecDepth 100000 in
set_option maxHeartbeats 0 in
theorem PySem.Challenge.cw_ringstairs_k67_whole_least_cores_of_a_bo_holds : PySem.Challenge.rw_ringstairs_k67_whole_least_cores_of_a_bo.Holds := by
  w_on; o_law; k_head; (case hw => w_witness2)
  k_fill
  refine L2.walk_of (l := PySem.Challenge.rw_ringstairs_k67_whole_least_cores_of_a_bo) (n := 63) (k := 8) (x := "_law_script") (CX := fun _ => L2.CX0) (sp := fun w => L2.Q67.spLawK _) rfl (by decide) rfl ⟨rfl, by decide, by decide⟩ (fun w h Y => PySem.W.kIn_of Y) ?F (fun _ _ a ns hl _ hS => ⟨a, ns, rfl, hS, hl, fun _ => rfl⟩) (fun _ _ _ _ _ h => h)
  case F =>
    intro w mg fa h KX G hmg
    refine' L2.Q67.all_mk KX G hmg ?e_is_whole ?e_is_within ?e_is_ring_in ?e_is_chain_in ?e_require_chain ?e_is_tuple_in ?e_require_tuple ?e_is_heap_in ?e_box_in ?e_holds_in ?e_flipped_in ?e_addable_columns ?e_can_add_in ?e_risen ?e_grown_in ?e_heaps_in ?e_heap_in ?e_heap_of ?e_bead_list ?e_is_core_in ?e_bounded_parts_in ?e_letters_in ?e_require_order ?e_require_core ?e_letters_of ?e_with_letter_in ?e_cores_that_hold ?e_least_cores_in ?e_require_box_sides ?e_least_cores ?e_least_letters ?e__law_dice ?e__law_roll ?e__law_one_of ?e__law_common ?e__law_ring_of ?e__law_equal_chain ?e__law_tuple ?e__law_rests_up ?e__law_behind ?e__law_holds ?e__law_layers ?e__law_least ?e__law_right ?e_law ?z_len ?z_range ?z_zip ?z_all ?z_any ?z_isinstance ?z_tuple ?z_sorted ?z_enumerate ?z_max ?z_min ?z_sum ?z_list ?z_int ?z_bool ?z_abs ?c_MOST_RINGS ?c_MOST_PLACES ?c_MOST_SIDE ?c_LEAST_ORDER ?c_MAX_ORDER ?c_MAX_BOX
    (case e_is_whole => (refine' L2.Q67.def_in ?a ?l ?c ?k; (case a => k_is); (case l => k_is); (case c => k_is); (case k => k_is)))
    (case e_is_within => (refine' L2.Q67.def_in ?a ?l ?c ?k; (case a => k_is); (case l => k_is); (case c => k_is); (case k => k_is)))
    (case e_is_ring_in => (refine' L2.Q67.def_in ?a ?l ?c ?k; (case a => k_is); (case l => k_is); (case c => k_is); (case k => k_is)))
    (case e_is_chain_in => (refine' L2.Q67.def_in ?a ?l ?c ?k; (case a => k_is); (case l => k_is); (case c => k_is); (case k => k_is)))
    (case e_require_chain => (refine' L2.Q67.def_in ?a ?l ?c ?k; (case a => k_is); (case l => k_is); (case c => k_is); (case k => k_is)))
    (case e_is_tuple_in => (refine' L2.Q67.def_in ?a ?l ?c ?k; (case a => k_is); (case l => k_is); (case c => k_is); (case k => k_is)))
    (case e_require_tuple => (refine' L2.Q67.def_in ?a ?l ?c ?k; (case a => k_is); (case l => k_is); (case c => k_is); (case k => k_is)))
    (case e_is_heap_in => (refine' L2.Q67.def_in ?a ?l ?c ?k; (case a => k_is); (case l => k_is); (case c => k_is); (case k => k_is)))
    (case e_box_in => (refine' L2.Q67.def_in ?a ?l ?c ?k; (case a => k_is); (case l => k_is); (case c => k_is); (case k => k_is)))
    (case e_holds_in => (refine' L2.Q67.def_in ?a ?l ?c ?k; (case a => k_is); (case l => k_is); (case c => k_is); (case k => k_is)))
    (case e_flipped_in => (refine' L2.Q67.def_in ?a ?l ?c ?k; (case a => k_is); (case l => k_is); (case c => k_is); (case k => k_is)))
    (case e_addable_columns => (refine' L2.Q67.def_in ?a ?l ?c ?k; (case a => k_is); (case l => k_is); (case c => k_is); (case k => k_is)))
    (case e_can_add_in => (refine' L2.Q67.def_in ?a ?l ?c ?k; (case a => k_is); (case l => k_is); (case c => k_is); (case k => k_is)))
    (case e_risen => (refine' L2.Q67.def_in ?a ?l ?c ?k; (case a => k_is); (case l => k_is); (case c => k_is); (case k => k_is)))
    (case e_grown_in => (refine' L2.Q67.def_in ?a ?l ?c ?k; (case a => k_is); (case l => k_is); (case c => k_is); (case k => k_is)))
    (case e_heaps_in => (refine' L2.Q67.def_in ?a ?l ?c ?k; (case a => k_is); (case l => k_is); (case c => k_is); (case k => k_is)))
    (case e_heap_in => (refine' L2.Q67.def_in ?a ?l ?c ?k; (case a => k_is); (case l => k_is); (case c => k_is); (case k => k_is)))
    (case e_heap_of => (refine' L2.Q67.def_in ?a ?l ?c ?k; (case a => k_is); (case l => k_is); (case c => k_is); (case k => k_is)))
    (case e_bead_list => (refine' L2.Q67.def_in ?a ?l ?c ?k; (case a => k_is); (case l => k_is); (case c => k_is); (case k => k_is)))
    (case e_is_core_in => (refine' L2.Q67.def_in ?a ?l ?c ?k; (case a => k_is); (case l => k_is); (case c => k_is); (case k => k_is)))
    (case e_bounded_parts_in => (refine' L2.Q67.def_in ?a ?l ?c ?k; (case a => k_is); (case l => k_is); (case c => k_is); (case k => k_is)))
    (case e_letters_in => (refine' L2.Q67.def_in ?a ?l ?c ?k; (case a => k_is); (case l => k_is); (case c => k_is); (case k => k_is)))
    (case e_require_order => (refine' L2.Q67.def_in ?a ?l ?c ?k; (case a => k_is); (case l => k_is); (case c => k_is); (case k => k_is)))
    (case e_require_core => (refine' L2.Q67.def_in ?a ?l ?c ?k; (case a => k_is); (case l => k_is); (case c => k_is); (case k => k_is)))
    (case e_letters_of => (refine' L2.Q67.def_in ?a ?l ?c ?k; (case a => k_is); (case l => k_is); (case c => k_is); (case k => k_is)))
    (case e_with_letter_in => (refine' L2.Q67.def_in ?a ?l ?c ?k; (case a => k_is); (case l => k_is); (case c => k_is); (case k => k_is)))
    (case e_cores_that_hold => (refine' L2.Q67.def_in ?a ?l ?c ?k; (case a => k_is); (case l => k_is); (case c => k_is); (case k => k_is)))
    (case e_least_cores_in => (refine' L2.Q67.def_in ?a ?l ?c ?k; (case a => k_is); (case l => k_is); (case c => k_is); (case k => k_is)))
    (case e_require_box_sides => (refine' L2.Q67.def_in ?a ?l ?c ?k; (case a => k_is); (case l => k_is); (case c => k_is); (case k => k_is)))
    (case e_least_cores => (refine' L2.Q67.def_in ?a ?l ?c ?k; (case a => k_is); (case l => k_is); (case c => k_is); (case k => k_is)))
    (case e_least_letters => (refine' L2.Q67.def_in ?a ?l ?c ?k; (case a => k_is); (case l => k_is); (case c => k_is); (case k => k_is)))
    (case e__law_dice => (refine' L2.Q67.def_in ?a ?l ?c ?k; (case a => k_is); (case l => k_is); (case c => k_is); (case k => k_is)))
    (case e__law_roll => (refine' L2.Q67.def_in ?a ?l ?c ?k; (case a => k_is); (case l => k_is); (case c => k_is); (case k => k_is)))
    (case e__law_one_of => (refine' L2.Q67.def_in ?a ?l ?c ?k; (case a => k_is); (case l => k_is); (case c => k_is); (case k => k_is)))
    (case e__law_common => (refine' L2.Q67.def_in ?a ?l ?c ?k; (case a => k_is); (case l => k_is); (case c => k_is); (case k => k_is)))
    (case e__law_ring_of => (refine' L2.Q67.def_in ?a ?l ?c ?k; (case a => k_is); (case l => k_is); (case c => k_is); (case k => k_is)))
    (case e__law_equal_chain => (refine' L2.Q67.def_in ?a ?l ?c ?k; (case a => k_is); (case l => k_is); (case c => k_is); (case k => k_is)))
    (case e__law_tuple => (refine' L2.Q67.def_in ?a ?l ?c ?k; (case a => k_is); (case l => k_is); (case c => k_is); (case k => k_is)))
    (case e__law_rests_up => (refine' L2.Q67.def_in ?a ?l ?c ?k; (case a => k_is); (case l => k_is); (case c => k_is); (case k => k_is)))
    (case e__law_behind => (refine' L2.Q67.def_in ?a ?l ?c ?k; (case a => k_is); (case l => k_is); (case c => k_is); (case k => k_is)))
    (case e__law_holds => (refine' L2.Q67.def_in ?a ?l ?c ?k; (case a => k_is); (case l => k_is); (case c => k_is); (case k => k_is)))
    (case e__law_layers => (refine' L2.Q67.def_in ?a ?l ?c ?k; (case a => k_is); (case l => k_is); (case c => k_is); (case k => k_is)))
    (case e__law_least => (refine' L2.Q67.def_in ?a ?l ?c ?k; (case a => k_is); (case l => k_is); (case c => k_is); (case k => k_is)))
    (case e__law_right => (refine' L2.Q67.def_in ?a ?l ?c ?k; (case a => k_is); (case l => k_is); (case c => k_is); (case k => k_is)))
    (case e_law => (refine' L2.Q67.def_in ?a ?l ?c ?k; (case a => k_is); (case l => k_is); (case c => k_is); (case k => k_is)))
    (case z_len => k_is)
    (case z_range => k_is)
    (case z_zip => k_is)
    (case z_all => k_is)
    (case z_any => k_is)
    (case z_isinstance => k_is)
    (case z_tuple => k_is)
    (case z_sorted => k_is)
    (case z_enumerate => k_is)
    (case z_max => k_is)
    (case z_min => k_is)
    (case z_sum => k_is)
    (case z_list => k_is)
    (case z_int => k_is)
    (case z_bool => k_is)
    (case z_abs => k_is)
    (case c_MOST_RINGS => (refine' L2.Q67.cn_in ?a; (case a => k_is)))
    (case c_MOST_PLACES => (refine' L2.Q67.cn_in ?a; (case a => k_is)))
    (case c_MOST_SIDE => (refine' L2.Q67.cn_in ?a; (case a => k_is)))
    (case c_LEAST_ORDER => (refine' L2.Q67.cn_in ?a; (case a => k_is)))
    (case c_MAX_ORDER => (refine' L2.Q67.cn_in ?a; (case a => k_is)))
    (case c_MAX_BOX => (refine' L2.Q67.cn_in ?a; (case a => k_is)))
