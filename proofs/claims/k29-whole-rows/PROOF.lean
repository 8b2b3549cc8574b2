import PyProof.Rows.All
import Wide.All
import OpenK.AllK
import Wide.FinOn
import KE.KIndexOf
import KE.GoesMore
import KE.GoesEnum
import KE.KRevSl
import HandS.ForMost
import HandS.Star
import HandS.TupAny
import HandS.Wide
import HandS.IsInst
import HandS.Walk
import HandS.Sort
import HandS.SortInts
import HandS.Evl
import HandS.Conv
import HandS.Style
import PySem.Challenge.RW_overtake_k29_whole_rows_that_do_the_same
set_option Elab.async false
set_option linter.all false
set_option maxRecDepth 100000
set_option maxHeartbeats 8000000
/-! The plain law of overtake k29: lines of one to four people, calls, rows of calls; no program in sight. -/
namespace Ov

/-- the people of a line of n -/
def rng (n : Nat) : List Int := (List.range n).map fun k : Nat => ((k : Nat) : Int)
/-- the program's goal: back from place k past all shorter ones -/
def goalF (ns : List Int) (p : Int) : Nat → Nat
  | 0 => 0
  | k + 1 => if ns.getD k 0 < p then goalF ns p k else k + 1
def goalP (ns : List Int) (p : Int) : Nat := goalF ns p (ns.idxOf p)
theorem goalF_le (ns : List Int) (p : Int) : ∀ k, goalF ns p k ≤ k
  | 0 => Nat.le_refl _
  | k + 1 => by
    unfold goalF
    split
    · exact Nat.le_succ_of_le (goalF_le ns p k)
    · exact Nat.le_refl _
/-- the line behind a call, the program's way -/
def callF (ns : List Int) (p : Int) : List Int :=
  ns.take (goalP ns p) ++ (p :: ((ns.drop (goalP ns p)).take (ns.idxOf p - goalP ns p) ++ ns.drop (ns.idxOf p + 1)))
/-- the line behind a row, the program's way -/
def doneF (ns : List Int) (cs : List Int) : List Int := cs.foldl callF ns
/-- the places of the taller ones ahead of place o -/
def tallL (ns : List Int) (p : Int) (o : Nat) : List Nat := (List.range o).filter fun k => decide (p < ns.getD k 0)
def newL (ns : List Int) (p : Int) : Nat := match (tallL ns p (ns.idxOf p)).getLast? with
  | some k => k + 1
  | none => 0
/-- the line behind a call, the law's way -/
def callL (ns : List Int) (p : Int) : List Int :=
  ns.take (newL ns p) ++ [p] ++ (ns.drop (newL ns p)).take (ns.idxOf p - newL ns p) ++ ns.drop (ns.idxOf p + 1)
def doneL (ns : List Int) (cs : List Int) : List Int := cs.foldl callL ns
/-- the people who would move, as they stand -/
def moversR (ns : List Int) : List Int := ((List.range (ns.length - 1)).filter fun i => decide (ns.getD i 0 < ns.getD (i + 1) 0)).map fun i => ns.getD (i + 1) 0
/-- the wrong pairs of the one at place k -/
def wrongAt (ns : List Int) (k : Nat) : List (List Int) := ((ns.drop (k + 1)).filter fun o => decide (ns.getD k 0 < o)).map fun o => [ns.getD k 0, o]
def wrongK (ns : List Int) : Nat → List (List Int)
  | 0 => []
  | k + 1 => wrongK ns k ++ wrongAt ns k
def wrongL (ns : List Int) : List (List Int) := wrongK ns ns.length
/-- a row by one more person -/
def extF (n : Nat) (row : List Int) : List (List Int) := ((rng n).filter fun p => !row.contains p).map fun p => row ++ [p]
def stepF (n : Nat) (found : List (List Int)) : List (List Int) := found.flatMap (extF n)
def linesK (n : Nat) : Nat → List (List Int)
  | 0 => [[]]
  | i + 1 => stepF n (linesK n i)
def linesF (n : Nat) : List (List Int) := linesK n n
def facK : Nat → Int
  | 0 => 1
  | i + 1 => facK i * (2 + (i : Int))

/-- sizes, people, rows that come here -/
def Sz (n : Nat) : Prop := 1 ≤ n ∧ n ≤ 4
def Pn (n : Nat) (p : Int) : Prop := 0 ≤ p ∧ p < n
def Row (n : Nat) (cs : List Int) : Prop := ∀ c ∈ cs, Pn n c
def Ln (n : Nat) (l : List Int) : Prop := Sz n ∧ l ∈ linesF n

theorem sz_cases {n : Nat} (h : Sz n) : n = 1 ∨ n = 2 ∨ n = 3 ∨ n = 4 := by
  obtain ⟨h1, h2⟩ := h
  omega
theorem mem_rng {n : Nat} {p : Int} (h : Pn n p) : p ∈ rng n := by
  obtain ⟨h1, h2⟩ := h
  unfold rng
  exact List.mem_map.mpr ⟨p.toNat, List.mem_range.mpr (show p.toNat < n by omega), (show ((p.toNat : Nat) : Int) = p by omega)⟩
theorem rng_pn {n : Nat} {p : Int} (h : p ∈ rng n) : Pn n p := by
  unfold rng at h
  obtain ⟨k, hk, rfl⟩ := List.mem_map.mp h
  have := List.mem_range.mp hk
  exact ⟨by omega, by omega⟩

/-- all that is to be looked at, line by line and person by person -/
def lineOk (n : Nat) (l : List Int) : Bool :=
  decide (l.length = n) && ((rng n).all fun p => decide (p ∈ l) && decide (callF l p ∈ linesF n) && decide (callF l p = callL l p)) &&
    decide ((moversR l).isEmpty = (wrongL l).isEmpty) && decide (doneF l (rng n).reverse = (rng n).reverse)
def restOk (n : Nat) : Bool := ((rng n).all fun p => decide (callF (rng n).reverse p = (rng n).reverse)) && (moversR (rng n).reverse).isEmpty
def lenOk (n : Nat) : Bool := (List.range (n + 1)).all fun i => decide ((linesK n i).length ≤ 24) && (linesK n i).all fun l => decide (l.length = i)
def allOk (n : Nat) : Bool := (linesF n).all (lineOk n) && restOk n && lenOk n && decide (facK (n - 1) ≤ 5040)
theorem ok1 : allOk 1 = true := by decide +kernel
theorem ok2 : allOk 2 = true := by decide +kernel
theorem ok3 : allOk 3 = true := by decide +kernel
theorem ok4 : allOk 4 = true := by decide +kernel
theorem ok_all {n : Nat} (h : Sz n) : allOk n = true := by
  rcases sz_cases h with rfl | rfl | rfl | rfl
  · exact ok1
  · exact ok2
  · exact ok3
  · exact ok4
theorem ok_parts {n : Nat} (h : Sz n) : (∀ l ∈ linesF n, lineOk n l = true) ∧ restOk n = true ∧ lenOk n = true ∧ facK (n - 1) ≤ 5040 := by
  have q := ok_all h
  unfold allOk at q
  simp only [Bool.and_eq_true, List.all_eq_true, decide_eq_true_eq] at q
  exact ⟨q.1.1.1, q.1.1.2, q.1.2, q.2⟩
theorem fac_ok {n : Nat} (h : Sz n) : facK (n - 1) ≤ 5040 := (ok_parts h).2.2.2
theorem ln_parts {n : Nat} {l : List Int} (h : Ln n l) : l.length = n ∧ (∀ p ∈ rng n, p ∈ l ∧ callF l p ∈ linesF n ∧ callF l p = callL l p) ∧ (moversR l).isEmpty = (wrongL l).isEmpty ∧ doneF l (rng n).reverse = (rng n).reverse := by
  have q := (ok_parts h.1).1 l h.2
  unfold lineOk at q
  simp only [Bool.and_eq_true, List.all_eq_true, decide_eq_true_eq] at q
  exact ⟨q.1.1.1, fun p hp => ⟨(q.1.1.2 p hp).1.1, (q.1.1.2 p hp).1.2, (q.1.1.2 p hp).2⟩, q.1.2, q.2⟩
theorem ln_len {n : Nat} {l : List Int} (h : Ln n l) : l.length = n := (ln_parts h).1
theorem ln_mem {n : Nat} {l : List Int} {p : Int} (h : Ln n l) (hp : Pn n p) : p ∈ l := ((ln_parts h).2.1 p (mem_rng hp)).1
theorem ln_call {n : Nat} {l : List Int} {p : Int} (h : Ln n l) (hp : Pn n p) : Ln n (callF l p) := ⟨h.1, ((ln_parts h).2.1 p (mem_rng hp)).2.1⟩
theorem ln_eq {n : Nat} {l : List Int} {p : Int} (h : Ln n l) (hp : Pn n p) : callF l p = callL l p := ((ln_parts h).2.1 p (mem_rng hp)).2.2
theorem ln_calm {n : Nat} {l : List Int} (h : Ln n l) : (moversR l).isEmpty = (wrongL l).isEmpty := (ln_parts h).2.2.1
theorem ln_rest {n : Nat} {l : List Int} (h : Ln n l) : doneF l (rng n).reverse = (rng n).reverse := (ln_parts h).2.2.2
theorem rest_parts {n : Nat} (h : Sz n) : (∀ p, Pn n p → callF (rng n).reverse p = (rng n).reverse) ∧ moversR (rng n).reverse = [] := by
  have q := (ok_parts h).2.1
  unfold restOk at q
  simp only [Bool.and_eq_true, List.all_eq_true, decide_eq_true_eq, List.isEmpty_iff] at q
  exact ⟨fun p hp => q.1 p (mem_rng hp), q.2⟩
theorem len_parts {n i : Nat} (h : Sz n) (hi : i ≤ n) : (linesK n i).length ≤ 24 ∧ ∀ l ∈ linesK n i, l.length = i := by
  have q := (ok_parts h).2.2.1
  unfold lenOk at q
  simp only [Bool.and_eq_true, List.all_eq_true, decide_eq_true_eq] at q
  exact q i (List.mem_range.mpr (by omega))

theorem row_cons {n : Nat} {c : Int} {cs : List Int} (h : Row n (c :: cs)) : Pn n c ∧ Row n cs := ⟨h c List.mem_cons_self, fun d hd => h d (List.mem_cons_of_mem _ hd)⟩
theorem row_app {n : Nat} {cs ds : List Int} (h : Row n cs) (h' : Row n ds) : Row n (cs ++ ds) := fun c hc => (List.mem_append.mp hc).elim (h c) (h' c)
theorem row_rev {n : Nat} : Row n (rng n).reverse := fun _ hc => rng_pn (List.mem_reverse.mp hc)
theorem done_ln {n : Nat} : ∀ {cs l : List Int}, Ln n l → Row n cs → Ln n (doneF l cs)
  | [], _, h, _ => h
  | c :: cs, _, h, hc => done_ln (cs := cs) (ln_call h (row_cons hc).1) (row_cons hc).2
theorem done_eq {n : Nat} : ∀ {cs l : List Int}, Ln n l → Row n cs → doneF l cs = doneL l cs
  | [], _, _, _ => rfl
  | c :: cs, l, h, hc => by
    show doneF (callF l c) cs = doneL (callL l c) cs
    rw [← ln_eq h (row_cons hc).1]
    exact done_eq (cs := cs) (ln_call h (row_cons hc).1) (row_cons hc).2
theorem done_app (l cs ds : List Int) : doneF l (cs ++ ds) = doneF (doneF l cs) ds := List.foldl_append
theorem rest_stays {n : Nat} (h : Sz n) : ∀ {cs : List Int}, Row n cs → doneF (rng n).reverse cs = (rng n).reverse
  | [], _ => rfl
  | c :: cs, hc => by
    show doneF (callF (rng n).reverse c) cs = _
    rw [(rest_parts h).1 c (row_cons hc).1]
    exact rest_stays h (row_cons hc).2
theorem take_done (l cs : List Int) (i : Nat) (c : Int) (h : cs[i]? = some c) : doneF l (cs.take (i + 1)) = callF (doneF l (cs.take i)) c := by
  rw [List.take_add_one, h, done_app]
  rfl
theorem take_doneL (l cs : List Int) (i : Nat) (c : Int) (h : cs[i]? = some c) : doneL l (cs.take (i + 1)) = callL (doneL l (cs.take i)) c := by
  rw [List.take_add_one, h]
  show List.foldl callL l (cs.take i ++ [c]) = _
  rw [List.foldl_append]
  rfl

/-- do two rows part at a line; is a line no rest behind a row -/
def partsF (one other l : List Int) : Bool := !decide (doneF l one = doneF l other)
def partsL (one other l : List Int) : Bool := !decide (doneL l one = doneL l other)
def movesF (cs l : List Int) : Bool := !(moversR (doneF l cs)).isEmpty
def movesL (cs l : List Int) : Bool := !(wrongL (doneL l cs)).isEmpty
def tellF (n : Nat) (one other : List Int) : Option (List Int) := (linesF n).find? (partsF one other)
def restF (n : Nat) (cs : List Int) : Option (List Int) := (linesF n).find? (movesF cs)
theorem find_congr {α : Type} {f g : α → Bool} : ∀ {xs : List α}, (∀ x ∈ xs, f x = g x) → xs.find? f = xs.find? g
  | [], _ => rfl
  | x :: xs, h => by
    rw [List.find?_cons, List.find?_cons, h x List.mem_cons_self, find_congr (xs := xs) fun y hy => h y (List.mem_cons_of_mem _ hy)]
theorem tell_eq {n : Nat} {one other : List Int} (h : Sz n) (h1 : Row n one) (h2 : Row n other) : (linesF n).find? (partsL one other) = tellF n one other :=
  find_congr fun l hl => by
    have q : Ln n l := ⟨h, hl⟩
    unfold partsL partsF
    rw [done_eq q h1, done_eq q h2]
theorem rest_eq {n : Nat} {cs : List Int} (h : Sz n) (h1 : Row n cs) : (linesF n).find? (movesL cs) = restF n cs :=
  find_congr fun l hl => by
    have q : Ln n l := ⟨h, hl⟩
    unfold movesL movesF
    rw [← done_eq q h1, ln_calm (done_ln q h1)]
theorem rest_all {n : Nat} (h : Sz n) : restF n (rng n).reverse = none := List.find?_eq_none.mpr fun l hl => by
  have q : Ln n l := ⟨h, hl⟩
  unfold movesF
  rw [ln_rest q, (rest_parts h).2]
  decide
theorem same_all {n : Nat} {cs : List Int} (h : Sz n) (hc : Row n cs) : tellF n (rng n).reverse ((rng n).reverse ++ cs) = none := List.find?_eq_none.mpr fun l hl => by
  have q : Ln n l := ⟨h, hl⟩
  unfold partsF
  rw [done_app, ln_rest q, rest_stays h hc, decide_eq_true rfl]
  decide
end Ov
/-! Rules that the layer lacks: a tuple told with its object (no dict of its own), t.index(k) of it, displays and sums that make such tuples, enumerate(t), t[::-1]. -/
namespace OvR
open PySem PySem.Spec PyProof.Rows L2

/-- a tuple at p, told with its object, which has no dict of its own -/
def FT (H : Hp) (p : Addr) (xs : List V) : Prop := ∃ o : Obj, o.dict = Option.none ∧ H p = some (.frz o (.tup xs))
theorem FT.seq {K : PySem.W.Frag} {H : Hp} {p : Addr} {xs : List V} (h : FT H p xs) : SqT K H p xs := by
  obtain ⟨o, _, e⟩ := h
  exact .inl (.inr ⟨o, e⟩)
theorem FT.keep {H H' : Hp} {p : Addr} {xs : List V} (e : Same H H') (h : FT H p xs) : FT H' p xs := by
  obtain ⟨o, d, q⟩ := h
  exact ⟨o, d, e _ _ q⟩
theorem FT.made {H : Hp} {p : Addr} {o : Obj} {xs : List V} (d : o.dict = Option.none) : FT (upd H p (.frz o (.tup xs))) p xs := ⟨o, d, upd_same⟩
theorem Same.seqT {K : PySem.W.Frag} {H H' : Hp} {a : Addr} {xs : List V} (e : Same H H') (h : SqT K H a xs) : SqT K H' a xs := Evl.ex_t e h
theorem Same.new {H : Hp} {p : Addr} {o : HO} (h : H p = Option.none) : Same H (upd H p o) := Evl.Ex.new h
/-- what H does not know yet may be stored to -/
theorem Same.mut {H H' : Hp} {p : Addr} {o : HO} (e : Same H H') (h : H p = Option.none) : Same H (upd H' p o) := Evl.Ex.mut e h

section
variable {X : Cx}
/-- (a, *b, ..): the new tuple told with its object -/
def tTupF (t : TA) : TE := fun σ H Q => t σ H fun xs H1 => xs.length ≤ sizeLine ∧ ∀ (p : Addr) (o : Obj), H1 p = Option.none → o.dict = Option.none → Q (.ref p) (upd H1 p (.frz o (.tup xs)))
theorem pe_tupF {es : List Expr} {pos : Pos} {t : TA} {x1} (h : PA X es t) : PE X (.Tuple es x1 pos) (tTupF t) := by
  refine ⟨fun pins s σ H Q I hq => wpAny_Tuple_spliced (thn (h.run pos pins s σ H _ I hq) fun us s1 h1 => ?_)⟩
  obtain ⟨xs, H1, I1, r, z, q⟩ := h1
  refine ⟨by rw [← r.length]; exact z, ?_⟩
  have hn : H1 s1.heap.objs.size = Option.none := I1.hok.fresh (Nat.le_refl _)
  refine ⟨.ref s1.heap.objs.size, _, I1.laid (t' := s1.toks) (o := .frz { cls := .type "tuple", data := .seq us.toArray } (.tup xs)) (fun b u e => Heap.get?_push_of_some _ e) (Nat.le_refl _) ?_, rfl, q _ _ hn rfl⟩
  exact ⟨Heap.get?_push_size _ rfl, z, us, r, ⟨_, Heap.get?_push_size _ rfl, rfl, _, rfl⟩⟩
/-- t + u: a new tuple is told with its object -/
def rCatF (K : PySem.W.Frag) : R2 := fun x y H Q => ∃ a b xs ys, x = .ref a ∧ y = .ref b ∧ SqT K H a xs ∧ SqT K H b ys ∧ xs.length + ys.length ≤ sizeLine ∧
  (xs = [] → Q (.ref b) H) ∧ (xs ≠ [] → ys = [] → Q (.ref a) H) ∧ (xs ≠ [] → ys ≠ [] → ∀ (p : Addr) (o : Obj), H p = Option.none → o.dict = Option.none → Q (.ref p) (upd H p (.frz o (.tup (xs ++ ys)))))
theorem op_catF : OpR X (binaryOp .Add) (rCatF X.K) := by
  rintro pins s σ H _ _ v u Q I rv ru ⟨a, b, xs, ys, rfl, rfl, hxs, hys, hsum, whenNil, whenOne, whenBoth⟩
  obtain rfl : v = Value.ref a := rv
  obtain rfl : u = Value.ref b := ru
  obtain ⟨vs, pv, tv, _⟩ := I.tuple hxs
  obtain ⟨us, pu, tu, _⟩ := I.tuple hys
  cases xs with
  | nil =>
    cases pv
    exact cat_tup0 tv tu ⟨.ref b, H, I, rfl, whenNil rfl⟩
  | cons x xs =>
    have full : x :: xs ≠ [] := fun z => nomatch z
    refine HT.cat_tup tv tu (fun z => full (pv.nil_iff.mp z)) (fun z => ⟨.ref a, H, I, rfl, whenOne full (pu.nil_iff.mp z)⟩) (fun z => ?_) ?_
    · have free : H s.heap.objs.size = Option.none := I.hok.fresh (Nat.le_refl _)
      have here : (s.heap.push { cls := .type "tuple", data := .seq (vs ++ us).toArray }).get? s.heap.objs.size = some { cls := .type "tuple", data := .seq (vs ++ us).toArray } := Heap.get?_push_size _ rfl
      have laid := I.laid (t' := s.toks) (o := .frz { cls := .type "tuple", data := .seq (vs ++ us).toArray } (.tup (x :: xs ++ ys))) (fun c ob e => Heap.get?_push_of_some _ e) (Nat.le_refl _)
        ⟨here, by rw [List.length_append]; exact hsum, _, pv.append pu, _, here, rfl, _, rfl⟩
      exact ⟨.ref s.heap.objs.size, _, laid, rfl, whenBoth full (fun e => z (pu.nil_iff.mpr e)) _ _ free rfl⟩
    · rw [← pv.length, ← pu.length]
      exact hsum

/-- t.index(k), t a told tuple of ints that holds k: its first place -/
def tTIx (ta te : TE) : TE := fun σ H Q => ta σ H fun x H1 => ∃ (p : Addr) (ns : List Int), x = .ref p ∧ FT H1 p (ns.map V.int) ∧ te σ H1 fun y H2 => ∃ k : Int, y = .int k ∧ FT H2 p (ns.map V.int) ∧ k ∈ ns ∧ Q (.int ((ns.idxOf k : Nat) : Int)) H2
theorem pe_tidx {o e : Expr} {ta te : TE} {apos cpos : Pos} (ho : PE X o ta) (he : PE X e te)
    (hbase : attributeBase o "index" X.env (eval o X.env) = eval o X.env := by rfl) (hline : (apos.endLine == cpos.line) = true := by rfl)
    (hs : backTo cpos (starEach [e] X.env) = [(false, eval e X.env)] := by rfl) : PE X (.Call (.Attribute o "index" apos) [e] [] cpos) (tTIx ta te) := by
  refine ⟨fun pins s σ H Q I h => ?_⟩
  refine wpAny_Call_method1_late hbase hline hs (thn (ho.run pins s σ H _ I h) fun v s1 h1 => ?_)
  obtain ⟨x, H1, I1, r1, p, ns, rfl, ⟨ob, hd, hp⟩, q1⟩ := h1
  cases r1
  obtain ⟨hob, _⟩ := (show ObjOk X.prog X.w H1 s1.heap p (.frz ob (.tup (ns.map V.int))) from I1.hok p _ hp)
  have hq : SqT X.K H1 p (ns.map V.int) := .inl (.inr ⟨ob, hp⟩)
  obtain ⟨its, r, pl, _⟩ := I1.tuple hq
  refine ⟨"tuple", "tuple.index", PySem.F.plainAttrs_tuple, PySem.F.slot_tuple_index, PySem.F.type_tuple_index, pl.typeIs, fun a ea => ?_, ?_⟩
  · cases ea
    exact ⟨ob, hob, hd⟩
  · refine Calls.callWith_builtin rfl (Calls.evalArgs_plain ?_)
    refine Calls.spliced_cons (thn (he.run pins s1 σ H1 _ I1 q1) fun u s2 h2 => Calls.spliced_nil ?_)
    obtain ⟨y, H2, I2, r2, k, rfl, hF, hk, q2⟩ := h2
    obtain ⟨t, rfl⟩ := r2
    obtain ⟨its2, r', pl2, _⟩ := I2.tuple (FT.seq (K := X.K) hF)
    exact PySem.SeqAt.tuple_index_ints pl2 (intsAre_of r') hk ⟨.int ((ns.idxOf k : Nat) : Int), H2, I2.tok _, ⟨_, rfl⟩, q2⟩
end

/-! ### t[::-1] -/
theorem adj_back (n : Nat) : Builtin.Slice.sliceAdjust Option.none Option.none (-1) (n : Int) = ((n : Int) - 1, -1) := by
  show ((if (-1 : Int) < 0 then (if (-1 : Int) < 0 then (n : Int) - 1 else n) else _), (if (-1 : Int) < 0 then (if (-1 : Int) < 0 then (-1 : Int) else 0) else _)) = _
  rw [if_pos (by decide), if_pos (by decide), if_pos (by decide), if_pos (by decide)]
theorem places_back (n : Nat) : Builtin.Slice.slicePlaces ((n : Int) - 1) (-1) (-1) = n := by
  show (if (-1 : Int) > 0 then _ else (if (n : Int) - 1 > -1 then ((n : Int) - 1 - -1 - 1) / (- -1) + 1 else 0)).toNat = n
  rw [if_neg (by decide), show (- -1 : Int) = 1 by decide, Int.ediv_one]
  split <;> omega
theorem fm_congr {α β : Type} {f g : α → Option β} : ∀ {l : List α}, (∀ x ∈ l, f x = g x) → l.filterMap f = l.filterMap g
  | [], _ => rfl
  | x :: l, h => by
    rw [List.filterMap_cons, List.filterMap_cons, h x List.mem_cons_self, fm_congr fun y hy => h y (List.mem_cons_of_mem _ hy)]
theorem pick_back (xs : Array Value) : ((List.range xs.size).filterMap fun (m : Nat) => xs[(((xs.size : Int) - 1) + (m : Int) * (-1)).toNat]?).toArray = xs.toList.reverse.toArray := by
  rw [← PySem.W.krv_all xs, ← List.filterMap_reverse, ← PySem.W.krv_range, List.filterMap_map]
  refine congrArg _ (fm_congr fun m hm => ?_)
  have h := List.mem_range.mp hm
  show xs[(((xs.size : Int) - 1) + (m : Int) * (-1)).toNat]? = xs[xs.size - 1 - m]?
  rw [show (((xs.size : Int) - 1) + (m : Int) * (-1)).toNat = xs.size - 1 - m by omega]
/-- the parts of a slice that is [::-1], over n items -/
theorem parts_back {prog : Program} {w : World} {A : Around} {E : Value → Shared → Prop} {s : Shared} {sl : Addr} {vl vu vs : Value} {n : Nat} {R : Int × Int × Nat → Shared → Prop} (hs : s.heap.IsSliceOf sl vl vu vs)
    (pl : IsPart vl Option.none) (pu : IsPart vu Option.none) (ps : IsPart vs (some (-1))) (q : R ((n : Int) - 1, -1, n) s) : wpAny (model prog w) A (Builtin.Slice.sliceApplied (.ref sl) (pure (n : Int))) R E s := by
  obtain ⟨ob, here, _, fields⟩ := hs
  have read : ∀ {R : Value × Value × Value → Shared → Prop}, R (vl, vu, vs) s → wpAny (model prog w) A (Builtin.Slice.sliceFields (.ref sl)) R E s := fun q =>
    wpAny_bind (wpAny_field here fields (x := vl) rfl (wpAny_bind (wpAny_field here fields (x := vu) rfl (wpAny_bind (wpAny_field here fields (x := vs) rfl (wpAny_pure q))))))
  unfold Builtin.Slice.sliceApplied
  refine wpAny_bind (read (wpAny_bind (HT.slicePart_ ps ?_)))
  show wpAny _ _ (if ((-1 : Int) == 0) = true then _ else _) _ _ s
  rw [if_neg (by decide)]
  refine wpAny_bind (HT.slicePart_ pl (wpAny_bind (HT.slicePart_ pu (wpAny_bind (wpAny_pure ?_)))))
  show wpAny _ _ (pure ((Builtin.Slice.sliceAdjust Option.none Option.none (-1) (n : Int)).1, (-1 : Int), Builtin.Slice.slicePlaces (Builtin.Slice.sliceAdjust Option.none Option.none (-1) (n : Int)).1 (Builtin.Slice.sliceAdjust Option.none Option.none (-1) (n : Int)).2 (-1))) _ _ s
  rw [adj_back]
  show wpAny _ _ (pure (((n : Int) - 1), (-1 : Int), Builtin.Slice.slicePlaces ((n : Int) - 1) (-1) (-1))) _ _ s
  rw [places_back]
  exact wpAny_pure q
theorem item_back {prog : Program} {w : World} {A : Around} {E : Value → Shared → Prop} {s : Shared} {t sl : Addr} {items : Array Value} {vl vu vs : Value} {Q : Value → Shared → Prop} (ht : IsTup s.heap t items) (hs : s.heap.IsSliceOf sl vl vu vs)
    (pl : IsPart vl Option.none) (pu : IsPart vu Option.none) (ps : IsPart vs (some (-1))) (hz : items.size ≤ sizeLine)
    (h : Q (.ref s.heap.objs.size) { s with heap := s.heap.push { cls := .type "tuple", data := .seq items.toList.reverse.toArray } }) : wpAny (model prog w) A (getItem (.ref t) (.ref sl)) Q E s := by
  have small : sizeOk (.seq items.toList.reverse.toArray) := Nat.le_trans (Nat.le_of_eq (by rw [List.size_toArray, List.length_reverse, Array.length_toList])) hz
  have isSl : s.TypeIs (.ref sl) "slice" := let ⟨ob, e, c, _⟩ := hs; ⟨ob, e, c⟩
  have not0 : ¬ ((((items.size : Int) - 1) == 0 && (-1 : Int) == 1 && items.size == items.size) = true) := by
    rw [show ((-1 : Int) == 1) = false by decide, Bool.and_false, Bool.false_and]
    exact Bool.false_ne_true
  -- the built-in's own text
  have body : wpAny (model prog w) A.in1 (Builtin.«tuple.__getitem__» ⟨[.ref t, .ref sl], []⟩) (fun fin s' => ∃ v, fin = .done (.ret v) ∧ Q v s') E s := by
    show wpAny _ _ (Builtin.Tuple.tupleItemsOf _ >>= _) _ _ s
    refine wpAny_bind (tupleItemsOf_ ht (wpAny_bind (wpAny_typeOf isSl ?_)))
    rw [if_pos (by decide)]
    refine wpAny_bind (parts_back hs pl pu ps ?_)
    show wpAny _ _ (if (((items.size : Int) - 1) == 0 && (-1 : Int) == 1 && items.size == items.size) = true then _ else _) _ _ s
    rw [if_neg not0, pick_back]
    first
      | exact wpAny_bind (m := Builtin.Tuple.tupleExact _) (wpAny_newObj_type (wpAny_pure ⟨_, rfl, h⟩) small)
      | exact wpAny_bind (wpAny_bind (m := Builtin.Tuple.tupleExact _) (wpAny_newObj_type (wpAny_pure (wpAny_pure ⟨_, rfl, h⟩)) small))
      | exact wpAny_bind (m := Builtin.Tuple.tupleExact _) (wpAny_newObj_type (wpAny_bind (wpAny_pure (wpAny_pure ⟨_, rfl, h⟩))) small)
  unfold getItem
  try with_reducible refine wpAny_holding ?_
  try (refine wpAny_bind (wpAny_pure ?_))
  exact wpAny_bind (wpAny_sequenceKey ht.typeIs (by decide) (wpAny_bind (wpAny_callSpecial?_slot ht.typeIs PyProof.Rows.slot_tuple_getitem
    (wpAny_call_entry PyProof.Rows.slot_tuple_getitem ht.typeIs entry_tuple_getitem (wpAny_mono body (fun _ _ z => let ⟨v, e, y⟩ := z; ⟨v, e, wpAny_pure y⟩) fun _ _ z => z) (args_tuple_getitem _ _)))))
section
variable {X : Cx}
/-- -1 as a slice's part -/
theorem po_back {k : Nat} {p1 p2 : Pos} : PO X (some (.UnaryOp .USub (.Constant (.int 1) k p1) p2)) (fun _ H Q => Q (some (-1)) H) :=
  ⟨fun pins s σ H Q I q => (po_some (pe_un un_neg pe_int)).run pins s σ H Q I ⟨1, rfl, -1, rfl, q⟩⟩
def tRevT (K : PySem.W.Frag) (te : TE) : TE := fun σ H Q => te σ H fun x H1 => ∃ a xs, x = .ref a ∧ SqT K H1 a xs ∧ ∀ p, H1 p = Option.none → Q (.ref p) (upd H1 p (.tup xs.reverse))
theorem pe_revT {e : Expr} {te : TE} {k : Nat} {p1 p2 p3 pos : Pos} (he : PE X e te) : PE X (.Subscript e (.Slice Option.none Option.none (some (.UnaryOp .USub (.Constant (.int 1) k p1) p2)) p3) pos) (tRevT X.K te) := by
  refine ⟨fun pins s σ H Q I h => ?_⟩
  refine Subscript_ (thn (he.run pins s σ H _ I h) fun v s1 h1 => ?_)
  obtain ⟨x, H1, I1, rx, a, xs, rfl, hx, q⟩ := h1
  obtain rfl : v = Value.ref a := rx
  -- the three parts change nothing
  refine wpAny_Slice (thn (po_none.run pins s1 σ H1 (fun o H2 => o = Option.none ∧ H2 = H1) I1 ⟨rfl, rfl⟩) fun lo s2 h2 => ?_)
  obtain ⟨_, _, I2, plo, rfl, rfl⟩ := h2
  refine thn (po_none.run pins s2 σ _ (fun o H3 => o = Option.none ∧ H3 = _) I2 ⟨rfl, rfl⟩) fun hi s3 h3 => ?_
  obtain ⟨_, _, I3, phi, rfl, rfl⟩ := h3
  refine thn (po_back.run pins s3 σ _ (fun o H4 => o = some (-1) ∧ H4 = _) I3 ⟨rfl, rfl⟩) fun st s4 h4 => ?_
  obtain ⟨_, _, I4, pst, rfl, rfl⟩ := h4
  generalize hg : s4.heap.push { cls := .type "slice", data := .fields #[lo, hi, st] } = g
  have I5 : Inv X pins σ _ { s4 with heap := g } := I4.kept (t' := s4.toks) fun b ob y => by
    rw [← hg]
    exact Heap.get?_push_of_some _ y
  have hsl : g.IsSliceOf s4.heap.objs.size lo hi st := by
    rw [← hg]
    exact Heap.IsSliceOf.new ..
  obtain ⟨its, r, ht, hz⟩ := I5.tuple hx
  refine tail_any (ops := [.ref a, .ref s4.heap.objs.size]) ht.typeIs PyProof.Rows.slot_tuple_getitem.lookup ?_ (by with_unfolding_all rfl)
  refine item_back ht hsl plo phi pst (Nat.le_trans (Nat.le_of_eq (by rw [List.size_toArray, ← r.length])) hz) ?_
  have room : xs.reverse.length ≤ sizeLine := by
    rw [List.length_reverse]
    exact hz
  exact ⟨.ref g.objs.size, _, I5.laid (t' := s4.toks) (o := .tup xs.reverse) (fun b ob y => Heap.get?_push_of_some _ y) (Nat.le_refl _) ⟨room, _, r.reverse, IsTup.new _ _⟩, rfl, q _ (I5.hok.fresh (Nat.le_refl _))⟩
end

/-! ### enumerate(t), t a tuple -/
/-- the iterator that enumerate(t) makes of t, and its own object over it -/
def itO (t : Addr) : Obj := { cls := .type "tuple_iterator", data := .fields #[.ref t, .int 0 0] }
def enO (it : Addr) : Obj := { cls := .type "enumerate", data := .fields #[.none, .bool false, .ref it, rawInt 0, .none, .none] }
set_option maxHeartbeats 4000000 in
theorem meets_enumT (t : Addr) (items : Array Value) : Meets (Builtin.«enumerate.__new__» ⟨[.type "enumerate", .ref t], []⟩)
    (fun _ R s => s.heap.IsTuple t items ∧ R (.ok (.ret (.ref (s.heap.push (itO t)).objs.size))) { s with heap := (s.heap.push (itO t)).push (enO s.heap.objs.size) }) :=
  .of_wp fun prog w A R s ⟨isT, h⟩ => by
    have hsub := sub_enumerate
    have walked : ∀ {A' : Around} {E : Value → Shared → Prop} {Q : Value → Shared → Prop}, Q (.ref s.heap.objs.size) { s with heap := s.heap.push (itO t) } → wpAny (model prog w) A' (pyIter (.ref t)) Q E s := fun q => wpAny_pyIter_tuple isT q
    obtain ⟨hp, gs, dr, tk, os⟩ := s
    wp_walk using walked
    refine wpAny_stack_any fun frames => wpAny_pure ?_
    split
    · rename_i c _ _ _ _ _
      cases (c == Value.type "enumerate") <;> (wp_walk using walked) <;> exact ⟨_, rfl, h⟩
    · wp_walk using walked
      exact ⟨_, rfl, h⟩
theorem call_enumT {prog : Program} {w : World} {A : Around} {E : Value → Shared → Prop} {s : Shared} {t : Addr} {items : Array Value} {Q : Value → Shared → Prop} (isT : s.heap.IsTuple t items)
    (h : ∀ g, IsEnum g (s.heap.objs.size + 1) s.heap.objs.size 0 .none → g.IsTupleIter s.heap.objs.size t 0 → (∀ b o, s.heap.get? b = some o → g.get? b = some o) →
      Q (.ref (s.heap.objs.size + 1)) { s with heap := g }) : wpAny (model prog w) A (call (.type "enumerate") [.ref t]) Q E s := by
  refine callType_new F.called_enumerate (by decide) (F.typeCall_enumerate_1 _) (F.newCall_enumerate_1 _) (fun obj => F.args_object_init_2 obj _) F.entry_enumerate_new (meets_enumT t items) ⟨isT, ?_⟩
  have size : (s.heap.push (itO t)).objs.size = s.heap.objs.size + 1 := Heap.size_push ..
  have first : (s.heap.push (itO t)).get? s.heap.objs.size = some (itO t) := Heap.get?_push_size _ rfl
  have kept : ∀ b o, s.heap.get? b = some o → (s.heap.push (itO t)).get? b = some o := fun b o y => Heap.get?_push_of_some _ y
  show _ ∧ _
  rw [size]
  generalize s.heap.push (itO t) = g at size first kept
  have second : (g.push (enO s.heap.objs.size)).get? (s.heap.objs.size + 1) = some (enO s.heap.objs.size) := by
    have y : (g.push (enO s.heap.objs.size)).get? g.objs.size = some (enO s.heap.objs.size) := Heap.get?_push_size _ rfl
    rw [size] at y
    exact y
  exact ⟨⟨_, second, rfl⟩, h _ second ⟨_, Heap.get?_push_of_some _ first, rfl, rfl⟩ fun b o y => Heap.get?_push_of_some _ (kept b o y)⟩
/-- the tuple at a, each item in a new pair -/
def IteT (K : PySem.W.Frag) (a : Addr) : It :=
  ⟨fun i H => ∃ (xs : List V) (x : V), SqT K H a xs ∧ xs[i]? = some x, fun i H v H' => ∃ T x, v = .ref T ∧ H T = Option.none ∧ H' = upd H T (.tup [.int (i : Nat), x]) ∧ ∀ xs, SqT K H a xs → xs[i]? = some x, fun i H => ∃ xs : List V, SqT K H a xs ∧ xs.length = i⟩
theorem walk_enumT {K : PySem.W.Frag} {a : Addr} {xs : List V} : Walk (IteT K a) xs.length (fun H => SqT K H a xs) (YPair (fun i => some (.int (i : Nat))) (fun i => xs[i]?)) :=
  ⟨fun i _ hi q => ⟨xs, xs[i], q, by simp [hi]⟩, fun _ q => ⟨xs, q, rfl⟩, fun i H v H' _ q y => by
    obtain ⟨T, x, y1, y2, y3, y4⟩ := y
    exact ⟨T, .int (i : Nat), x, y1, y2, y3, rfl, y4 xs q⟩⟩
/-- how the enumerate object e over the iterator it of the tuple a stands at turn i -/
def EnAt (e it a : Addr) (i : Nat) (g : Heap) : Prop := (∃ old, IsEnum g e it ((i : Nat) : Int) old) ∧ g.IsTupleIter it a i ∧ e ≠ it
/-- the tuple is neither of the two -/
theorem enAt_apart {e it a : Addr} {i : Nat} {g : Heap} {items : Array Value} (st : EnAt e it a i g) (isT : g.IsTuple a items) : a ≠ it ∧ a ≠ e := by
  obtain ⟨⟨old, he⟩, ⟨o, ho, oc, _⟩, _⟩ := st
  obtain ⟨o2, ho2, oc2, _⟩ := isT
  refine ⟨fun z => ?_, fun z => ?_⟩
  · rw [z, ho] at ho2
    cases ho2
    rw [oc] at oc2
    exact absurd oc2 (by decide)
  · rw [z, he] at ho2
    cases ho2
    exact absurd (show Value.type "enumerate" = Value.type "tuple" from oc2) (by decide)
theorem turn_enumT {P : Program} {w : World} {K : PySem.W.Frag} {elts : List Expr} {kk : Nat} {tpos : Pos} (a e it : Addr) : Turn P w K (.Tuple elts kk tpos) (IteT K a) [e, it] e (EnAt e it a) where
  mem := List.mem_cons_self
  obj := fun i g st b hb => by
    obtain ⟨⟨old, he⟩, ⟨o, ho, _, od⟩, _⟩ := st
    have which : b = e ∨ b = it := (List.mem_cons.mp hb).imp id fun z => List.mem_singleton.mp z
    rcases which with rfl | rfl
    · exact ⟨_, he, fun v z => nomatch z⟩
    · exact ⟨o, ho, fun v z => by rw [od] at z; cases z⟩
  keep := fun i g g' st k => by
    obtain ⟨⟨old, he⟩, ⟨o, ho, r⟩, ne⟩ := st
    exact ⟨⟨old, k e List.mem_cons_self _ he⟩, ⟨o, k it (List.mem_cons_of_mem _ List.mem_cons_self) _ ho, r⟩, ne⟩
  item := by
    rintro X rfl rfl rfl calm i pins s σ H E I own st ⟨xs, x, hxs, hx⟩
    obtain ⟨vs, pv, isT, _⟩ := I.tuple hxs
    obtain ⟨u, hu, ru⟩ := pv.get hx
    obtain ⟨ai, ae⟩ := enAt_apart st isT
    obtain ⟨⟨old, he⟩, isIt, ne⟩ := st
    have le : e < s.heap.objs.size := Heap.lt_size he
    have li : it < s.heap.objs.size := let ⟨_, y, _⟩ := isIt; Heap.lt_size y
    have inside : i < vs.toArray.size := by
      rw [List.size_toArray]
      exact (List.getElem?_eq_some_iff.mp hu).1
    have draws := Draws.tuple (prog := X.prog) (w := X.w) (A := X.A.in1) (I.ok.hd calm) it a ai vs.toArray
    refine wpAny_pyNext_enum_itemC (c := ((i : Nat) : Int)) draws he ⟨isIt, isT⟩ inside ne (by simp [ne, Ne.symm ae]) fun y g tk hy out st2 pair _ others => ?_
    obtain rfl : y = u := by
      have z : vs.toArray[i]? = some u := by simpa using hu
      exact Option.some.inj ((show vs.toArray[i]? = some y from hy).symm.trans z)
    refine ⟨_, rfl, wpAny_letOwnedTupleGo_enum (s := { s with heap := g, toks := tk + 1 }) out fun g2 he2 same => ?_⟩
    have rest2 : ∀ b o, b ∉ [e, it] → s.heap.get? b = some o → g2.get? b = some o := fun b o n y =>
      (same.2 b fun z => n (by rw [z]; exact List.mem_cons_self)).trans (others b o (fun z => n (by rw [z]; exact List.mem_cons_self)) (fun z => n (by rw [z]; exact List.mem_cons_of_mem _ List.mem_cons_self)) y)
    have pair2 : g2.get? s.heap.objs.size = some { cls := .type "tuple", data := .seq #[.int ((i : Nat) : Int) tk, y] } := (same.2 _ (Nat.ne_of_gt le)).trans pair
    have twoOk : [V.int ((i : Nat) : Int), x].length ≤ sizeLine := show 2 ≤ sizeLine by decide
    have I2 := I.turnedNew (h' := g2) (t' := tk + 1) (T := s.heap.objs.size) (ob := .tup [.int (i : Nat), x]) (ch := [e, it]) rest2 own (Nat.le_refl _) ⟨twoOk, [.int ((i : Nat) : Int) tk, y], .cons ⟨_, rfl⟩ (.cons ru .nil), ⟨_, pair2, rfl, _, rfl⟩⟩
    obtain ⟨⟨o, ho, r⟩, _⟩ := st2
    refine ⟨.ref s.heap.objs.size, _, I2, rfl, ⟨_, x, rfl, I.hok.fresh (Nat.le_refl _), rfl, fun ys hys => I.tuple_inj hys hxs ▸ hx⟩, ⟨⟨y, ?_⟩, ⟨o, (same.2 it (Ne.symm ne)).trans ho, r⟩, ne⟩, fun b hb => ?_⟩
    · rw [show ((i + 1 : Nat) : Int) = ((i : Nat) : Int) + 1 by omega]
      exact he2
    · have lb : b < s.heap.objs.size := (List.mem_cons.mp hb).elim (fun z => z ▸ le) fun z => List.mem_singleton.mp z ▸ li
      exact (upd_ne (Nat.ne_of_lt lb)).trans (own b hb).1
  done := by
    rintro X rfl rfl rfl calm i pins s σ H E I own st ⟨xs, hxs, rfl⟩
    obtain ⟨vs, pv, isT, _⟩ := I.tuple hxs
    have ai := (enAt_apart st isT).1
    obtain ⟨⟨old, he⟩, isIt, _⟩ := st
    obtain ⟨o0, o1, _, o3, o4, o5⟩ := own it (List.mem_cons_of_mem _ List.mem_cons_self)
    have all : xs.length = vs.toArray.size := by rw [List.size_toArray, pv.length]
    have draws := Draws.tuple (prog := X.prog) (w := X.w) (A := X.A.in1) (I.ok.hd calm) it a ai vs.toArray
    exact wpAny_pyNext_enum_endD draws he ⟨all ▸ isIt, isT⟩ fun g eb => ⟨rfl, I.turned (t' := s.toks) (fun b o n y => eb b o n y) o0 o1 o3 o4 o5⟩
  self := fun _ _ _ _ _ st q => by
    obtain ⟨⟨_, he⟩, _, _⟩ := st
    exact wpAny_pyIter_enum he q
def iEnumT (K : PySem.W.Frag) (ta : TA) : TI := fun σ H R => ta σ H fun vs H1 => ∃ a xs, vs = [.ref a] ∧ SqT K H1 a xs ∧ R (IteT K a) H1
theorem pi_enumT {X : Cx} {e : Expr} {ta : TA} {p pos tpos : Pos} {elts : List Expr} {kk : Nat} (hg : Gl X "enumerate") (hm : X.mg "enumerate" = Option.none) (ha : PA X [e] ta) (hs : starEach [e] X.env = [(false, eval e X.env)] := by rfl) :
    PI X (.Tuple elts kk tpos) (.Call (.Name "enumerate" p) [e] [] pos) (iEnumT X.K ta) := by
  constructor
  intro pins s σ H R I h
  refine Call_ (ld_blt I hg hm boot_enumerate (PyProof.Rows.callWith_type1 (thn (ha.run pos pins s σ H _ I h) fun us s1 h1 => ?_) hs rfl))
  obtain ⟨_, H1, I1, r1, a, xs, rfl, hxs, q⟩ := h1
  obtain ⟨u, rfl, ru⟩ := Vals.one r1
  obtain rfl : u = Value.ref a := ru
  obtain ⟨vs, _, isT, _⟩ := I1.tuple hxs
  refine call_enumT (items := vs.toArray) isT fun g he isIt kept => wpAny_pyIter_enum he ?_
  refine ⟨s1.heap.objs.size + 1, [s1.heap.objs.size + 1, s1.heap.objs.size], _, _, H1, rfl, I1.kept (t' := s1.toks) kept, turn_enumT a (s1.heap.objs.size + 1) s1.heap.objs.size, ⟨⟨.none, he⟩, isIt, Nat.succ_ne_self _⟩, fun b hb => ?_, q⟩
  have young : s1.heap.objs.size ≤ b := (List.mem_cons.mp hb).elim (fun z => z ▸ Nat.le_add_right _ _) fun z => List.mem_singleton.mp z ▸ Nat.le_refl _
  exact I1.fpOk young (I1.hok.fresh young)
end OvR
/-! The text by places, what the top has written, the small defs. -/
namespace Ov
open PySem PySem.Spec PyProof.Rows L2 OvR
/-! ### the text -/
def topS (i : Nat) : Stmt := PySem.Challenge.pw_overtake_k29_whole_rows_that_do_the_same.main.body.getD i (.Pass ⟨0, 0, 0, 0⟩)
/-- a def of the top that keeps its promise, by its name -/
def Has (P : Program) (w : World) (K : PySem.W.Frag) (mg : Str → Option Value) (base : Heap) (k : Nat) (x : Str) (ps : List Str) (sp : Sp) : Prop :=
  ∃ (f : Addr) (fd : FuncData), mg x = some (.ref f) ∧ PySem.W.keepIn K (.ref f) = true ∧ Binds K fd ps [] ∧ FnOk P w K mg base CX0 k f fd ps sp
/-- a def of the top as it stands there -/
def Def (K : PySem.W.Frag) (mg : Str → Option Value) (x : Str) (st : Stmt) (ps : List Str) : Prop :=
  ∃ (f : Addr) (fd : FuncData), mg x = some (.ref f) ∧ Binds K fd ps [] ∧ Fun K x x st f fd
/-- the built-ins and constants that the defs name -/
structure Txt (mg : Str → Option Value) : Prop where
  isinstance : mg "isinstance" = Option.none
  int : mg "int" = Option.none
  bool : mg "bool" = Option.none
  tuple : mg "tuple" = Option.none
  list : mg "list" = Option.none
  str : mg "str" = Option.none
  len : mg "len" = Option.none
  range : mg "range" = Option.none
  enumerate : mg "enumerate" = Option.none
  sorted : mg "sorted" = Option.none
  all : mg "all" = Option.none
  people : ∃ t, mg "MOST_PEOPLE" = some (.int 8 t)
  lines : ∃ t, mg "MOST_LINES" = some (.int 5040 t)
  calls : ∃ t, mg "MOST_CALLS" = some (.int 60 t)
section
variable {X : Cx} {k : Nat} {x : Str} {ps : List Str} {sp : Sp} {e : Expr} {es : List Expr} {p pos : Pos} {t : TA}
/-- a call of such a def -/
theorem pe_has (G : Has X.prog X.w X.K X.mg X.base k x ps sp) (hr : Room k X.A) (hg : Gl X x) (ha : PA X (e :: es) t)
    (hdb : (x == ("__debug__" : Str)) = false := by decide) (first : starEach (e :: es) X.env = (false, eval e X.env) :: starEach es X.env := by rfl)
    (noStar : (backTo pos (starEach es X.env)).any (·.1) = false := by rfl) : PE X (.Call (.Name x p) (e :: es) [] pos) (tCall sp [] E0 t) := by
  obtain ⟨f, fd, h1, h2, h3, h4⟩ := G
  exact pe_call h4 hr hg h1 h2 h3 .nil pass0 ha hdb first noStar
/-- a constant int of the top -/
theorem pe_num {i : Int} (G : ∃ t, X.mg x = some (.int i t)) (hg : Gl X x) (hdb : (x == ("__debug__" : Str)) = false := by decide) : PE X (.Name x pos) (tC (.int i)) := by
  obtain ⟨t, h⟩ := G
  exact pe_glob hg h ⟨t, rfl⟩ hdb
end
theorem bl_yes {p : Prop} [Decidable p] (h : p) : V.bl (decide p) = V.bl true := by rw [decide_eq_true h]
theorem bl_no {p : Prop} [Decidable p] (h : ¬ p) : V.bl (decide p) = V.bl false := by rw [decide_eq_false h]
theorem sz5 {n : Nat} (h : n ≤ 1000) : n ≤ sizeLine := Nat.le_of_lt (small1000 h)
section
variable {P : Program} {w : World} {K : PySem.W.Frag} {mg : Str → Option Value} {base : Heap}
theorem Def.has {k : Nat} {x : Str} {st : Stmt} {ps : List Str} {sp : Sp} (D : Def K mg x st ps) (h : ∀ (f : Addr) (fd : FuncData), Fun K x x st f fd → FnOk P w K mg base CX0 k f fd ps sp) : Has P w K mg base k x ps sp := by
  obtain ⟨f, fd, h1, h2, h3⟩ := D
  exact ⟨f, fd, h1, h3.kp, h2, h f fd h3⟩

/-! ### is_integer -/
abbrev sInteger : Stmt := topS 1
theorem scInteger : FnScope ["value"] ["value"] (defScope sInteger) := ⟨rfl, rfl, rfl, by decide +kernel, rfl, by decide +kernel, by decide +kernel⟩
def spInteger : Sp := fun vs H Q _ => ∃ i : Int, vs = [.int i] ∧ Q (.bl true) H
theorem has_integer (D : Def K mg "is_integer" sInteger ["value"]) (T : Txt mg) : Has P w K mg base 1 "is_integer" ["value"] spInteger := by
  refine D.has fun f fd F => F.ok scInteger (fun vs H Q E h => ?_) (fun cdv A outer s H vs Q E hr h => ?_)
  · obtain ⟨i, rfl, _⟩ := h
    rfl
  · obtain ⟨i, rfl, q⟩ := h
    refine ⟨_, pss_one (ps_ret (pe_and (pe_callB call_isi (by rfl) T.isinstance (by decide +kernel) (pa_cons (pv 0) (pa_cons (pe_bltn (v := .ty "int") (by rfl) T.int (by decide +kernel) rfl) pa_nil)))
      (pe_one (pe_not (pe_callB call_isi (by rfl) T.isinstance (by decide +kernel) (pa_cons (pv 0) (pa_cons (pe_bltn (v := .ty "bool") (by rfl) T.bool (by decide +kernel) rfl) pa_nil))))))), ?_⟩
    refine ⟨_, rfl, _, _, _, _, true, rfl, .ty "int", .base (.int i), kit_ty (by decide +kernel), true, rfl, iteT ?_⟩
    exact ⟨_, rfl, _, _, _, _, false, rfl, .ty "bool", .base (.int i), kit_ty (by decide +kernel), false, rfl, q⟩

/-! ### is_in -/
abbrev sIn : Stmt := topS 2
theorem scIn : FnScope ["value", "least", "most"] ["value", "least", "most"] (defScope sIn) := ⟨rfl, rfl, rfl, by decide +kernel, rfl, by decide +kernel, by decide +kernel⟩
def spIn : Sp := fun vs H Q _ => ∃ i a b : Int, vs = [.int i, .int a, .int b] ∧ a ≤ i ∧ i ≤ b ∧ Q (.bl true) H
theorem has_in (D : Def K mg "is_in" sIn ["value", "least", "most"]) (G : Has P w K mg base 1 "is_integer" ["value"] spInteger) : Has P w K mg base 2 "is_in" ["value", "least", "most"] spIn := by
  refine D.has fun f fd F => F.ok scIn (fun vs H Q E h => ?_) (fun cdv A outer s H vs Q E hr h => ?_)
  · obtain ⟨i, a, b, rfl, _⟩ := h
    rfl
  · obtain ⟨i, a, b, rfl, h1, h2, q⟩ := h
    refine ⟨_, pss_one (ps_ret (pe_and (pe_has G hr (by rfl) (pa_cons (pv 0) pa_nil)) (pe_one (pe_chain op_le op_le (pv 1) (pv 0) (pv 2))))), ?_⟩
    refine ⟨_, rfl, i, rfl, true, rfl, iteT ?_⟩
    refine ⟨_, rfl, _, rfl, a, i, rfl, rfl, true, bl_yes h1, iteT ?_⟩
    refine ⟨_, rfl, i, b, rfl, rfl, ?_⟩
    show Q (.bl (decide (i ≤ b))) H
    rw [bl_yes h2]
    exact q

/-! ### is_list -/
abbrev sList : Stmt := topS 3
theorem scList : FnScope ["value", "least", "most"] ["value", "least", "most"] (defScope sList) := ⟨rfl, rfl, rfl, by decide +kernel, rfl, by decide +kernel, by decide +kernel⟩
theorem tyT {H : Hp} {a : Addr} {xs : List V} (h : SqT K H a xs) : TyX K H (.ref a) (.type "tuple") := by
  rcases h with (h | ⟨o, h⟩) | ⟨o, its, n, hk, hc, _⟩
  · exact .base (.tup h)
  · exact .fTuple h
  · exact .kTuple hk hc
def spList (K : PySem.W.Frag) : Sp := fun vs H Q _ => ∃ (p : Addr) (xs : List V) (a b : Int), vs = [.ref p, .int a, .int b] ∧ SqT K H p xs ∧ a ≤ (xs.length : Int) ∧ (xs.length : Int) ≤ b ∧ Q (.bl true) H
theorem has_list (D : Def K mg "is_list" sList ["value", "least", "most"]) (T : Txt mg) : Has P w K mg base 1 "is_list" ["value", "least", "most"] (spList K) := by
  refine D.has fun f fd F => F.ok scList (fun vs H Q E h => ?_) (fun cdv A outer s H vs Q E hr h => ?_)
  · obtain ⟨p, xs, a, b, rfl, _⟩ := h
    rfl
  · obtain ⟨p, xs, a, b, rfl, hx, h1, h2, q⟩ := h
    refine ⟨_, pss_one (ps_ret (pe_and (pe_callB call_isi (by rfl) T.isinstance (by decide +kernel) (pa_cons (pv 0) (pa_cons (pe_bltn (v := .ty "tuple") (by rfl) T.tuple (by decide +kernel) rfl) pa_nil)))
      (pe_one (pe_chain op_le op_le (pv 1) (pe_callB call_len_seq (by rfl) T.len PySem.boot_len (pa_cons (pv 0) pa_nil)) (pv 2))))), ?_⟩
    refine ⟨_, rfl, _, _, _, _, true, rfl, .ty "tuple", tyT hx, kit_ty (by decide +kernel), true, rfl, iteT ?_⟩
    refine ⟨_, rfl, _, rfl, p, xs, rfl, .inr hx, a, _, rfl, rfl, true, bl_yes h1, iteT ?_⟩
    refine ⟨_, rfl, _, b, rfl, rfl, ?_⟩
    show Q (.bl (decide ((xs.length : Int) ≤ b))) H
    rw [bl_yes h2]
    exact q

/-! ### need_size -/
abbrev sSize : Stmt := topS 12
theorem scSize : FnScope ["size"] ["size"] (defScope sSize) := ⟨rfl, rfl, rfl, by decide +kernel, rfl, by decide +kernel, by decide +kernel⟩
def spSize : Sp := fun vs H Q _ => ∃ i : Int, vs = [.int i] ∧ 1 ≤ i ∧ i ≤ 8 ∧ Q .non H
theorem has_size (D : Def K mg "need_size" sSize ["size"]) (T : Txt mg) (G : Has P w K mg base 2 "is_in" ["value", "least", "most"] spIn) : Has P w K mg base 3 "need_size" ["size"] spSize := by
  refine D.has fun f fd F => F.ok scSize (fun vs H Q E h => ?_) (fun cdv A outer s H vs Q E hr h => ?_)
  · obtain ⟨i, rfl, _⟩ := h
    rfl
  · obtain ⟨i, rfl, h1, h2, q⟩ := h
    refine ⟨_, pss_one (ps_if (pt_not (pt_val (pe_has G hr (by rfl) (pa_cons (pv 0) (pa_cons pe_int (pa_cons (pe_num T.people (by rfl)) pa_nil)))))) (pss_one ps_never) pss_nil), ?_⟩
    exact ⟨_, rfl, i, 1, 8, rfl, h1, h2, true, rfl, iteF q⟩

/-! ### factorial -/
abbrev sFac : Stmt := topS 13
theorem scFac : FnScope ["many", "found", "number"] ["many"] (defScope sFac) := ⟨rfl, rfl, rfl, by decide +kernel, rfl, by decide +kernel, by decide +kernel⟩
theorem fac_lt : ∀ i : Nat, i ≤ 3 → -(2 ^ 64) < facK i ∧ facK i < 2 ^ 64
  | 0, _ => by decide
  | 1, _ => by decide
  | 2, _ => by decide
  | 3, _ => by decide
  | i + 4, h => by omega
def spFac : Sp := fun vs H Q _ => ∃ n : Nat, vs = [.int (n : Int)] ∧ Sz n ∧ Q (.int (facK (n - 1))) H
theorem has_fac (D : Def K mg "factorial" sFac ["many"]) (T : Txt mg) : Has P w K mg base 1 "factorial" ["many"] spFac := by
  refine D.has fun f fd F => F.ok scFac (fun vs H Q E h => ?_) (fun cdv A outer s H vs Q E hr h => ?_)
  · obtain ⟨n, rfl, _⟩ := h
    rfl
  · obtain ⟨n, rfl, hn, q⟩ := h
    refine ⟨_, pss_cons (ps_set (i := 1) scFac.nd rfl (.inl rfl) pe_int)
      (pss_cons (ps_for PassesOwn.never rfl (pi_range2 (by rfl) T.range (pa_cons pe_int (pa_cons (pe_op op_add (pv 0) pe_int) pa_nil))) (pg_name (i := 2) scFac.nd rfl (.inl rfl))
        (pss_one (ps_set (i := 1) scFac.nd rfl (.inl rfl) (pe_op op_mul (pv 1) (pv 2)))))
      (pss_one (ps_ret (pv 1)))), ?_⟩
    have h1 := hn.1
    have h2 := hn.2
    have en : (((n : Int) + 1) - 2).toNat = n - 1 := by omega
    refine ⟨_, rfl, (n : Int), 1, rfl, rfl, 2, (n : Int) + 1, rfl, by omega, ?_⟩
    rw [en]
    refine for_range (lo := 2) (n := n - 1) (fun i σ H' => ∃ v : Option V, σ = [some (.int (n : Int)), some (.int (facK i)), v] ∧ H' = H) ⟨Option.none, rfl, rfl⟩ (fun i σ H' hi h => ?_) (fun σ H' h => ?_)
    · obtain ⟨v, rfl, rfl⟩ := h
      exact ⟨_, rfl, _, rfl, _, _, rfl, rfl, .inl (fac_lt i (by omega)), _, rfl, rfl⟩
    · obtain ⟨v, rfl, rfl⟩ := h
      exact ⟨_, rfl, q⟩
end
end Ov
/-! Lines, calls, stories. -/
namespace Ov
open PySem PySem.Spec PyProof.Rows L2 OvR
/-! ### turns of a comprehension -/
/-- over any walk of n turns: what holds between two turns, i + the turns left = n -/
theorem turns_walk {J : It} {n : Nat} {Go : Hp → Prop} {Y : Nat → Hp → V → Hp → Prop} (wk : Walk J n Go Y) {B : (Hp → Prop) → V → Hp → Prop} {Qd : Hp → Prop} {H0 : Hp} (Pv : Nat → Hp → Prop) (h0 : Pv 0 H0) (still : ∀ i H, i ≤ n → Pv i H → Go H)
    (turn : ∀ i x H H', i < n → Pv i H → Y i H x H' → B (Pv (i + 1)) x H') (fin : ∀ H, Pv n H → Qd H) :
    ∃ W : Nat → Nat → Hp → Prop, (∃ m, W 0 m H0) ∧ ∀ i m H, W i m H → (J.stop i H ∧ Qd H) ∨ (J.go i H ∧ ∃ Nx : Hp → Prop, (∀ H', Nx H' → ∃ m', m' < m ∧ W (i + 1) m' H') ∧ ∀ x H', J.yld i H x H' → B Nx x H') :=
  ⟨fun i left H => i + left = n ∧ Pv i H, ⟨n, Nat.zero_add n, h0⟩, fun i left H ⟨e, p⟩ => by
    cases left with
    | zero =>
      have all : i = n := e
      subst all
      exact .inl ⟨wk.stops H (still i H (Nat.le_refl i) p), fin H p⟩
    | succ left =>
      have lt : i < n := by omega
      have g := still i H (Nat.le_of_lt lt) p
      exact .inr ⟨wk.goes i H lt g, Pv (i + 1), fun H' p' => ⟨left, Nat.lt_succ_self left, by omega, p'⟩, fun x H' y => turn i x H H' lt p (wk.yields i H x H' lt g y)⟩⟩
theorem turns_list {K : PySem.W.Frag} {a : Addr} {xs : List V} {B : (Hp → Prop) → V → Hp → Prop} {Qd : Hp → Prop} {H0 : Hp} (Pv : Nat → Hp → Prop) (h0 : Pv 0 H0) (hl : ∀ i H, i ≤ xs.length → Pv i H → SqL K H a xs)
    (hs : ∀ i x H, xs[i]? = some x → Pv i H → B (Pv (i + 1)) x H) (hd : ∀ H, Pv xs.length H → Qd H) :
    ∃ W : Nat → Nat → Hp → Prop, (∃ m, W 0 m H0) ∧ ∀ i m H, W i m H → ((Itl K a).stop i H ∧ Qd H) ∨ ((Itl K a).go i H ∧ ∃ Nx : Hp → Prop, (∀ H', Nx H' → ∃ m', m' < m ∧ W (i + 1) m' H') ∧ ∀ x H', (Itl K a).yld i H x H' → B Nx x H') :=
  turns_walk (walk_list (K := K) (a := a) (xs := xs)) Pv h0 hl (fun i x H H' _ p y => by
    obtain ⟨rfl, hx⟩ := y
    exact hs i x _ hx p) hd
theorem turns_tup {K : PySem.W.Frag} {a : Addr} {xs : List V} {B : (Hp → Prop) → V → Hp → Prop} {Qd : Hp → Prop} {H0 : Hp} (Pv : Nat → Hp → Prop) (h0 : Pv 0 H0) (hl : ∀ i H, i ≤ xs.length → Pv i H → SqT K H a xs)
    (hs : ∀ i x H, xs[i]? = some x → Pv i H → B (Pv (i + 1)) x H) (hd : ∀ H, Pv xs.length H → Qd H) :
    ∃ W : Nat → Nat → Hp → Prop, (∃ m, W 0 m H0) ∧ ∀ i m H, W i m H → ((Itt K a).stop i H ∧ Qd H) ∨ ((Itt K a).go i H ∧ ∃ Nx : Hp → Prop, (∀ H', Nx H' → ∃ m', m' < m ∧ W (i + 1) m' H') ∧ ∀ x H', (Itt K a).yld i H x H' → B Nx x H') :=
  turns_walk (walk_tup (K := K) (a := a) (xs := xs)) Pv h0 hl (fun i x H H' _ p y => by
    obtain ⟨rfl, hx⟩ := y
    exact hs i x _ hx p) hd
theorem turns_range {lo : Int} {n : Nat} {B : (Hp → Prop) → V → Hp → Prop} {Qd : Hp → Prop} {H0 : Hp} (Pv : Nat → Hp → Prop) (h0 : Pv 0 H0)
    (hs : ∀ (i : Nat) H, i < n → Pv i H → B (Pv (i + 1)) (.int (lo + (i : Int))) H) (hd : ∀ H, Pv n H → Qd H) :
    ∃ W : Nat → Nat → Hp → Prop, (∃ m, W 0 m H0) ∧ ∀ i m H, W i m H → ((Itr lo n).stop i H ∧ Qd H) ∨ ((Itr lo n).go i H ∧ ∃ Nx : Hp → Prop, (∀ H', Nx H' → ∃ m', m' < m ∧ W (i + 1) m' H') ∧ ∀ x H', (Itr lo n).yld i H x H' → B Nx x H') :=
  turns_walk (walk_range (lo := lo) (n := n)) Pv h0 (fun _ _ _ _ => trivial) (fun i x H H' lt p y => by
    obtain ⟨rfl, rfl⟩ := y
    exact hs i _ lt p) hd

/-! ### lists of lines -/
/-- the ints of a line as values -/
abbrev vi (l : List Int) : List V := l.map V.int
def LineAt (H : Hp) (x : V) (l : List Int) : Prop := ∃ a, x = .ref a ∧ FT H a (vi l)
def AllF (H : Hp) (xs : List V) (L : List (List Int)) : Prop := Paired (LineAt H) xs L
theorem ftUpd {H : Hp} {p D : Addr} {xs acc acc' : List V} (h : FT H p xs) (hD : H D = some (.lst acc)) : FT (upd H D (.lst acc')) p xs := by
  obtain ⟨o, d, e⟩ := h
  have ne : p ≠ D := ne_of e hD (by intro z; cases z)
  exact ⟨o, d, by rw [upd_ne ne]; exact e⟩
theorem LineAt.keep {H H' : Hp} {x : V} {l : List Int} (e : Same H H') (h : LineAt H x l) : LineAt H' x l := by
  obtain ⟨a, r, f⟩ := h
  exact ⟨a, r, f.keep e⟩
theorem AllF.keep {H H' : Hp} {xs : List V} {L : List (List Int)} (e : Same H H') (h : AllF H xs L) : AllF H' xs L := Paired.mapP h fun _ _ q => q.keep e
theorem AllF.upd {H : Hp} {D : Addr} {acc acc' : List V} {xs : List V} {L : List (List Int)} (h : AllF H xs L) (hD : H D = some (.lst acc)) : AllF (upd H D (.lst acc')) xs L := Paired.mapP h fun _ _ q => by
  obtain ⟨a, r, f⟩ := q
  exact ⟨a, r, ftUpd f hD⟩
theorem AllF.len {H : Hp} {xs : List V} {L : List (List Int)} (h : AllF H xs L) : xs.length = L.length := Paired.length h
theorem pair_app {α β : Type} {F : α → β → Prop} : ∀ {xs : List α} {us : List β} {ys : List α} {ws : List β}, Paired F xs us → Paired F ys ws → Paired F (xs ++ ys) (us ++ ws)
  | _, _, _, _, .nil, s => s
  | _, _, _, _, .cons r t, s => .cons r (pair_app t s)
theorem pair_get {α β : Type} {F : α → β → Prop} {xs : List α} {us : List β} (h : Paired F xs us) : ∀ {i : Nat} {x : α}, xs[i]? = some x → ∃ u, us[i]? = some u ∧ F x u := by
  induction h with
  | nil => exact fun e => nomatch e
  | cons r _ ih =>
    intro i x e
    cases i with
    | zero => exact ⟨_, rfl, Option.some.inj e ▸ r⟩
    | succ i => exact ih (i := i) e
theorem inV_int (p : Int) : ∀ l : List Int, inV (.int p) (vi l) = l.contains p
  | [] => rfl
  | a :: l => by
    have ih := inV_int p l
    show (eqV (.int a) (.int p) || inV (.int p) (vi l)) = (a :: l).contains p
    rw [ih, List.contains_cons]
    show ((a == p) || l.contains p) = ((p == a) || l.contains p)
    rw [Bool.beq_comm]
theorem flat_vi (l : List Int) : (vi l).all flatV = true := by
  rw [List.all_map]
  exact List.all_eq_true.mpr fun _ _ => rfl
theorem ext_succ (j : Nat) (row : List Int) : extF (j + 1) row = extF j row ++ (if row.contains ((j : Nat) : Int) = true then [] else [row ++ [((j : Nat) : Int)]]) := by
  unfold extF rng
  rw [List.range_succ, List.map_append, List.filter_append, List.map_append]
  refine congrArg _ ?_
  show List.map _ (List.filter _ [((j : Nat) : Int)]) = _
  rw [List.filter_cons]
  by_cases h : row.contains ((j : Nat) : Int) = true
  · rw [if_neg (by rw [h]; decide), if_pos h]
    rfl
  · rw [if_pos (by rw [Bool.not_eq_true] at h; rw [h]; rfl), if_neg h]
    rfl
theorem flat_take {α β : Type} (f : α → List β) (L : List α) (i : Nat) (x : α) (h : L[i]? = some x) : (L.take (i + 1)).flatMap f = (L.take i).flatMap f ++ f x := by
  rw [List.take_add_one, h, List.flatMap_append]
  show _ ++ List.flatMap f [x] = _
  rw [List.flatMap_singleton]

section
variable {P : Program} {w : World} {K : PySem.W.Frag} {mg : Str → Option Value} {base : Heap}
/-! ### all_lines -/
abbrev sLines : Stmt := topS 14
theorem scLines : FnScope ["size", "found", "turn", "row", "person"] ["size"] (defScope sLines) := ⟨rfl, rfl, rfl, by decide +kernel, rfl, by decide +kernel, by decide +kernel⟩
def spLines (K : PySem.W.Frag) : Sp := fun vs H Q _ => ∃ n : Nat, vs = [.int (n : Int)] ∧ Sz n ∧ ∀ (H' : Hp) (r : Addr) (xs : List V), Same H H' → SqL K H' r xs → AllF H' xs (linesF n) → Q (.ref r) H'
theorem has_lines (D : Def K mg "all_lines" sLines ["size"]) (T : Txt mg) : Has P w K mg base 1 "all_lines" ["size"] (spLines K) := by
  refine D.has fun f fd F => F.ok scLines (fun vs H Q E h => ?_) (fun cdv A outer s H vs Q E hr h => ?_)
  · obtain ⟨n, rfl, _⟩ := h
    rfl
  · obtain ⟨n, rfl, hn, k⟩ := h
    have n1 := hn.1
    have n2 := hn.2
    refine ⟨_, pss_cons (ps_set (i := 1) scLines.nd rfl (.inl rfl) (pe_lst (pa_cons (pe_tupF pa_nil) pa_nil)))
      (pss_cons (ps_for PassesOwn.never rfl (pi_range1 (by rfl) T.range (pa_cons (pv 0) pa_nil)) (pg_name (i := 2) scLines.nd rfl (.inl rfl))
        (pss_one (ps_setLc2 (i := 1) (own := [("row", 3), ("person", 4)]) (vs1 := [4]) (g := gName 3) (g1 := gName 4) (tt := tYes) (tt1 := tTest (tOp (rIn K true) (tVar 4) (tVar 3))) (te := tTupF (StX.tStar K (tVar 3) (tCons (tVar 4) tNil))) rfl scLines.nd rfl rfl (sw_true rfl rfl rfl (by decide +kernel)) (pi_list (pv 1))
          (blkOk_by (N := ["size", "found", "turn", "row", "person"]) (sc := defScope sLines) (by decide +kernel)) (by decide) (fun _ _ _ _ _ => pg_name (i := 3) scLines.nd rfl (.inl rfl)) (fun _ _ _ _ _ => pts_nil)
          (fun _ _ _ _ _ => pi_range1 (by rfl) T.range (pa_cons (pv 0) pa_nil)) (fun _ _ _ _ _ => pg_name (i := 4) scLines.nd rfl (.inl rfl))
          (fun _ _ _ _ _ => pts_one (pt_cmpR op_notIn_seq (pv 4) (pv 3) (by rfl))) (fun _ _ _ _ _ => pe_tupF (StX.pa_star (pv 3) (pa_cons (pv 4) pa_nil))))))
      (pss_one (ps_ret (pv 1)))), ?_⟩
    -- found = [()]
    refine ⟨Nat.zero_le _, fun t o nt nd => ⟨sz5 (show 1 ≤ 1000 by decide), fun q nq => ?_⟩⟩
    have s1 : Same H (upd H t (.frz o (.tup []))) := Same.new nt
    have f1 : FT (upd H t (.frz o (.tup []))) t (vi []) := FT.made nd
    have e1 : Same H (upd (upd H t (.frz o (.tup []))) q (.lst [.ref t])) := s1.trans (Same.new nq)
    have f2 : FT (upd (upd H t (.frz o (.tup []))) q (.lst [.ref t])) t (vi []) := f1.keep (Same.new nq)
    refine ⟨_, rfl, (n : Int), rfl, by omega, by omega, ?_⟩
    refine for_range (lo := 0) (n := ((n : Nat) : Int).toNat) (fun i σ H' => ∃ (q : Addr) (v : Option V) (xs : List V), σ = [some (.int (n : Int)), some (.ref q), v, Option.none, Option.none] ∧ Same H H' ∧ H' q = some (.lst xs) ∧ AllF H' xs (linesK n i))
      ⟨q, Option.none, [.ref t], rfl, e1, upd_same, .cons ⟨t, rfl, f2⟩ .nil⟩ (fun i σ H' hi h => ?_) (fun σ H' h => ?_)
    · obtain ⟨q, v, xs, rfl, s2, hq, hA⟩ := h
      have hin : i < n := by omega
      obtain ⟨l1, l2⟩ := len_parts hn (Nat.le_of_lt hin)
      have hlen : xs.length ≤ 24 := by rw [hA.len]; exact l1
      refine ⟨_, rfl, q, rfl, ⟨xs, .inl (.inl hq)⟩, fun D hD => ?_⟩
      have hqD : q ≠ D := ne_of_none hq hD
      refine turns_list (xs := xs) (fun a H2 => ∃ acc : List V, Same H' H2 ∧ H2 D = some (.lst acc) ∧ AllF H2 acc (((linesK n i).take a).flatMap (extF n)) ∧ acc.length ≤ 4 * a)
        ⟨[], Same.new hD, upd_same, .nil, Nat.zero_le _⟩ (fun a H2 _ h => ?_) (fun a x H2 hx h => ?_) (fun H2 h => ?_)
      · obtain ⟨acc, s3, _⟩ := h
        exact .inl (.inl (s3 _ _ hq))
      · obtain ⟨acc, s3, hacc, hL, hz⟩ := h
        have ha : a < 24 := by
          have z := (List.getElem?_eq_some_iff.mp hx).1
          omega
        obtain ⟨row, hrow, b, rfl, hb⟩ := pair_get hA hx
        have hrl : row.length = i := l2 row (List.mem_of_getElem? hrow)
        have hb2 : FT H2 b (vi row) := hb.keep s3
        refine ⟨rfl, _, rfl, (n : Int), rfl, by omega, by omega, ?_⟩
        refine turns_range (lo := 0) (n := ((n : Nat) : Int).toNat) (fun j H3 => ∃ acc : List V, Same H' H3 ∧ H3 D = some (.lst acc) ∧ AllF H3 acc (((linesK n i).take a).flatMap (extF n) ++ extF j row) ∧ acc.length ≤ 4 * a + j)
          ⟨acc, s3, hacc, by rw [show extF 0 row = [] from rfl, List.append_nil]; exact hL, hz⟩ (fun j H3 hj h => ?_) (fun H3 h => ?_)
        · obtain ⟨ac, s4, hac, hL4, hz4⟩ := h
          have hb3 : FT H3 b (vi row) := hb.keep s4
          have e0 : (0 : Int) + ((j : Nat) : Int) = ((j : Nat) : Int) := Int.zero_add _
          rw [e0]
          refine ⟨rfl, _, rfl, _, rfl, b, vi row, rfl, .inr hb3.seq, rfl, flat_vi row, _, rfl, ?_⟩
          show if (!inV (.int ((j : Nat) : Int)) (vi row)) = true then _ else _
          rw [inV_int]
          by_cases hc : row.contains ((j : Nat) : Int) = true
          · rw [hc]
            refine iteF ⟨ac, s4, hac, ?_, by omega⟩
            rw [ext_succ, if_pos hc, List.append_nil]
            exact hL4
          · have hc' : row.contains ((j : Nat) : Int) = false := by simpa using hc
            rw [hc']
            refine iteT ⟨_, rfl, b, vi row, rfl, .inl hb3.seq, _, rfl, ?_, fun p ob np nd2 => ?_⟩
            · refine sz5 ?_
              rw [List.length_append, List.length_map, hrl]
              show i + 1 ≤ 1000
              omega
            · have s5 : Same H3 (upd H3 p (.frz ob (.tup (vi row ++ [.int ((j : Nat) : Int)])))) := Same.new np
              have hD5 : (upd H3 p (.frz ob (.tup (vi row ++ [.int ((j : Nat) : Int)])))) D = some (.lst ac) := s5 _ _ hac
              refine ⟨ac, hD5, small1000 (by omega), ac ++ [.ref p], ?_, upd_same, ?_, ?_⟩
              · exact Same.mut (s4.trans s5) hD
              · rw [ext_succ, if_neg hc, ← List.append_assoc]
                refine pair_app (AllF.upd (hL4.keep s5) hD5) (.cons ⟨p, rfl, ?_⟩ .nil)
                refine ftUpd ?_ hD5
                have em : vi (row ++ [((j : Nat) : Int)]) = vi row ++ [.int ((j : Nat) : Int)] := List.map_append
                rw [em]
                exact FT.made nd2
              · rw [List.length_append, List.length_singleton]
                omega
        · obtain ⟨ac, s4, hac, hL4, hz4⟩ := h
          rw [Int.toNat_natCast] at hL4 hz4
          refine ⟨ac, s4, hac, ?_, by omega⟩
          rw [flat_take _ _ _ _ hrow]
          exact hL4
      · obtain ⟨acc, s3, hacc, hL, _⟩ := h
        rw [hA.len, List.take_length] at hL
        exact ⟨D, _, acc, rfl, s2.trans s3, hacc, hL⟩
    · obtain ⟨q, v, xs, rfl, s2, hq, hA⟩ := h
      rw [Int.toNat_natCast] at hA
      exact ⟨_, rfl, k H' q xs s2 (.inl (.inl hq)) hA⟩
end
end Ov
/-! Calls and stories. -/
namespace Ov
open PySem PySem.Spec PyProof.Rows L2 OvR
/-! ### slices and sums of told tuples -/
theorem no_part {σ : L2.St} {H : Hp} {R : Option Int → Hp → Prop} (h : R Option.none H) : tNoPart σ H R := h
theorem cut_any {K : PySem.W.Frag} {H : Hp} {a : Addr} {xs : List V} {lo hi : Option Int} {Q : VK} (h : SqT K H a xs) (q : ∀ (H' : Hp) (r : Addr), Same H H' → SqT K H' r (cutV xs lo hi) → Q (.ref r) H') : rSlA K (.ref a) lo hi H Q := by
  refine ⟨a, xs, rfl, h, fun e => ?_, fun _ p np => q _ p (Same.new np) (.inl (.inl upd_same))⟩
  have e2 : cutV xs lo hi = xs := by
    unfold cutV
    rw [e.1, e.2, List.drop_zero, Nat.sub_zero, List.take_length]
  exact q H a (Same.refl H) (by rw [e2]; exact h)
theorem cut_to {ns : List Int} {g : Nat} (h : g ≤ ns.length) : cutV (vi ns) Option.none (some (g : Int)) = vi (ns.take g) := by
  unfold cutV
  rw [List.length_map, HT.sIx_none, HT.sIx_nat, Nat.min_eq_left h, List.drop_zero, Nat.sub_zero]
  exact List.map_take.symm
theorem cut_in {ns : List Int} {g o : Nat} (h : g ≤ ns.length) (h2 : o ≤ ns.length) : cutV (vi ns) (some (g : Int)) (some (o : Int)) = vi ((ns.drop g).take (o - g)) := by
  unfold cutV
  rw [List.length_map, HT.sIx_nat, HT.sIx_nat, Nat.min_eq_left h, Nat.min_eq_left h2]
  show _ = List.map V.int (List.take (o - g) (List.drop g ns))
  rw [List.map_take, List.map_drop]
theorem cut_from {ns : List Int} {g : Nat} (h : g ≤ ns.length) : cutV (vi ns) (some (g : Int)) Option.none = vi (ns.drop g) := by
  unfold cutV
  rw [List.length_map, HT.sIx_none, HT.sIx_nat, Nat.min_eq_left h]
  show _ = List.map V.int (List.drop g ns)
  rw [List.map_drop]
  refine List.take_of_length_le ?_
  rw [List.length_drop, List.length_map]
  exact Nat.le_refl _
theorem vi_get {cs : List Int} {i : Nat} {v : V} (h : (vi cs)[i]? = some v) : ∃ c, cs[i]? = some c ∧ v = .int c := by
  rw [List.getElem?_map] at h
  cases hg : cs[i]? with
  | none =>
    rw [hg] at h
    cases h
  | some c =>
    rw [hg] at h
    exact ⟨c, rfl, (Option.some.inj h).symm⟩
theorem idx_lt {ns : List Int} {p : Int} (h : p ∈ ns) : ns.idxOf p < ns.length := List.idxOf_lt_length_iff.mpr h
theorem call_vi (ns : List Int) (p : Int) : vi (callF ns p) = vi (ns.take (goalP ns p)) ++ (V.int p :: (vi ((ns.drop (goalP ns p)).take (ns.idxOf p - goalP ns p)) ++ vi (ns.drop (ns.idxOf p + 1)))) := by
  unfold callF vi
  rw [List.map_append, List.map_cons, List.map_append]
theorem call_len (ns : List Int) (p : Int) (h : p ∈ ns) : (callF ns p).length = ns.length := by
  have h1 := idx_lt h
  have h2 := goalF_le ns p (ns.idxOf p)
  have h3 : goalP ns p ≤ ns.idxOf p := h2
  unfold callF
  rw [List.length_append, List.length_cons, List.length_append, List.length_take, List.length_take, List.length_drop, List.length_drop]
  omega
theorem at_vi {ns : List Int} {j : Nat} (h : j < ns.length) : atI (vi ns) ((j : Nat) : Int) = some (.int (ns.getD j 0)) := by
  have e : ns[j]? = some (ns.getD j 0) := by
    rw [List.getD_eq_getElem?_getD, List.getElem?_eq_getElem h]
    rfl
  refine atI_nat ?_
  rw [List.getElem?_map, e]
  rfl

section
variable {P : Program} {w : World} {K : PySem.W.Frag} {mg : Str → Option Value} {base : Heap}
/-! ### need_calls -/
abbrev sNeedC : Stmt := topS 17
theorem scNeedC : FnScope ["line", "calls", "index", "person"] ["line", "calls"] (defScope sNeedC) := ⟨rfl, rfl, rfl, by decide +kernel, rfl, by decide +kernel, by decide +kernel⟩
def spNeedC (K : PySem.W.Frag) : Sp := fun vs H Q _ => ∃ (l c : Addr) (n : Nat) (ls : List V) (cs : List Int), vs = [.ref l, .ref c] ∧ SqT K H l ls ∧ ls.length = n ∧ SqT K H c (vi cs) ∧ cs.length ≤ 60 ∧ Row n cs ∧ ∀ H' : Hp, Same H H' → Q .non H'
theorem has_needC (D : Def K mg "need_calls" sNeedC ["line", "calls"]) (T : Txt mg) (GL : Has P w K mg base 1 "is_list" ["value", "least", "most"] (spList K)) (GI : Has P w K mg base 2 "is_in" ["value", "least", "most"] spIn) :
    Has P w K mg base 3 "need_calls" ["line", "calls"] (spNeedC K) := by
  refine D.has fun f fd F => F.ok scNeedC (fun vs H Q E h => ?_) (fun cdv A outer s H vs Q E hr h => ?_)
  · obtain ⟨l, c, n, ls, cs, rfl, _⟩ := h
    rfl
  · obtain ⟨l, c, n, ls, cs, rfl, hl, ln, hc, hz, hrow, k⟩ := h
    refine ⟨_, pss_cons (ps_if (pt_not (pt_val (pe_has GL (hr.mono (by decide)) (by rfl) (pa_cons (pv 1) (pa_cons pe_int (pa_cons (pe_num T.calls (by rfl)) pa_nil)))))) (pss_one ps_never) pss_nil)
      (pss_one (ps_for PassesOwn.never rfl (pi_enumT (by rfl) T.enumerate (pa_cons (pv 1) pa_nil)) (pg_tup rfl (pgs_cons (pg_name (i := 2) scNeedC.nd rfl (.inl rfl)) (pgs_cons (pg_name (i := 3) scNeedC.nd rfl (.inl rfl)) pgs_nil)))
        (pss_one (ps_if (pt_not (pt_val (pe_has GI hr (by rfl) (pa_cons (pv 3) (pa_cons pe_int (pa_cons (pe_op op_sub (pe_callB call_len_seq (by rfl) T.len PySem.boot_len (pa_cons (pv 0) pa_nil)) pe_int) pa_nil)))))) (pss_one ps_never) pss_nil)))), ?_⟩
    have hz2 : ((vi cs).length : Int) ≤ 60 := by
      rw [List.length_map]
      omega
    refine ⟨_, rfl, c, vi cs, 0, 60, rfl, hc, by omega, hz2, true, rfl, iteF ?_⟩
    refine ⟨_, rfl, c, vi cs, rfl, hc, ?_⟩
    refine for_it (walk_enumT (K := K) (a := c) (xs := vi cs)) (fun i σ H' => ∃ a b : Option V, σ = [some (.ref l), some (.ref c), a, b] ∧ Same H H') ⟨Option.none, Option.none, rfl, Same.refl H⟩ (fun i σ H' _ h => ?_) (fun i x σ H1 H2 hi h y => ?_) (fun σ H' h => ?_)
    · obtain ⟨a, b, _, s1⟩ := h
      exact Same.seqT s1 hc
    · obtain ⟨a, b, rfl, s1⟩ := h
      obtain ⟨t, u, v, rfl, nt, rfl, e1, e2⟩ := y
      have e3 : V.int ((i : Nat) : Int) = u := Option.some.inj e1
      subst e3
      obtain ⟨c0, hg, rfl⟩ := vi_get (show (vi cs)[i]? = some v from e2)
      have hp := hrow c0 (List.mem_of_getElem? hg)
      have s2 : Same H (upd H1 t (.tup [.int ((i : Nat) : Int), .int c0])) := s1.trans (Same.new nt)
      refine ⟨t, _, rfl, .inl (.inl upd_same), rfl, _, _, rfl, _, _, rfl, rfl, ?_⟩
      refine ⟨_, rfl, _, rfl, l, ls, rfl, .inr (Same.seqT s2 hl), _, _, rfl, rfl, c0, 0, _, rfl, hp.1, ?_, true, rfl, iteF ⟨_, _, rfl, s2⟩⟩
      show c0 ≤ (ls.length : Int) - 1
      rw [ln]
      have := hp.2
      omega
    · obtain ⟨a, b, rfl, s1⟩ := h
      exact k H' s1

/-! ### goal_in -/
abbrev sGoal : Stmt := topS 18
theorem scGoal : FnScope ["line", "person", "place"] ["line", "person"] (defScope sGoal) := ⟨rfl, rfl, rfl, by decide +kernel, rfl, by decide +kernel, by decide +kernel⟩
def spGoal : Sp := fun vs H Q _ => ∃ (l : Addr) (ns : List Int) (p : Int), vs = [.ref l, .int p] ∧ FT H l (vi ns) ∧ p ∈ ns ∧ Q (.int ((goalP ns p : Nat) : Int)) H
theorem has_goal (D : Def K mg "goal_in" sGoal ["line", "person"]) : Has P w K mg base 1 "goal_in" ["line", "person"] spGoal := by
  refine D.has fun f fd F => F.ok scGoal (fun vs H Q E h => ?_) (fun cdv A outer s H vs Q E hr h => ?_)
  · obtain ⟨l, ns, p, rfl, _⟩ := h
    rfl
  · obtain ⟨l, ns, p, rfl, hl, hp, q⟩ := h
    refine ⟨_, pss_cons (ps_set (i := 2) scGoal.nd rfl (.inl rfl) (pe_tidx (pv 0) (pv 1)))
      (pss_cons (ps_while PassesOwn.never (PW.pt (pw_and (pt_cmpR op_gt (pv 2) pe_int (nomark _)) (pw_and1 (pt_cmpR op_lt (pe_ix ix_tup (pv 0) (pe_op op_sub (pv 2) pe_int) (fun _ _ => rfl)) (pv 1) (nomark _)))))
        (pss_one (ps_aug (i := 2) scGoal.nd rfl (.inl rfl) pe_int ip_sub)))
      (pss_one (ps_ret (pv 2)))), ?_⟩
    have hi := idx_lt hp
    refine ⟨_, rfl, l, ns, rfl, hl, _, rfl, p, rfl, hl, hp, ?_⟩
    refine ⟨fun m σ H' => σ = [some (.ref l), some (.int p), some (.int ((m : Nat) : Int))] ∧ H' = H ∧ goalF ns p m = goalP ns p ∧ m ≤ ns.idxOf p, ⟨ns.idxOf p, rfl, rfl, rfl, Nat.le_refl _⟩, fun m σ H' h => ?_⟩
    obtain ⟨rfl, rfl, hg, hm⟩ := h
    refine ⟨_, rfl, _, _, rfl, rfl, _, rfl, ?_⟩
    cases m with
    | zero =>
      rw [show decide ((0 : Int) < ((0 : Nat) : Int)) = false by decide]
      refine iteF (iteF ⟨_, rfl, ?_⟩)
      have e : goalP ns p = 0 := hg.symm
      rw [e] at q
      exact q
    | succ j =>
      have hj : j < ns.length := by omega
      rw [decide_eq_true (show (0 : Int) < ((j + 1 : Nat) : Int) by omega)]
      refine iteT ⟨_, rfl, _, rfl, _, _, rfl, rfl, l, vi ns, _, .int (ns.getD j 0), rfl, rfl, hl.seq, ?_, _, rfl, _, _, rfl, rfl, _, rfl, ?_⟩
      · show atI (vi ns) (((j + 1 : Nat) : Int) - 1) = some (.int (ns.getD j 0))
        rw [show ((j + 1 : Nat) : Int) - 1 = ((j : Nat) : Int) by omega]
        exact at_vi hj
      · have hg2 : (if ns.getD j 0 < p then goalF ns p j else j + 1) = goalP ns p := hg
        by_cases hc : ns.getD j 0 < p
        · rw [decide_eq_true hc]
          rw [if_pos hc] at hg2
          refine iteT ⟨fun σ' H'' => σ' = [some (.ref l), some (.int p), some (.int ((j : Nat) : Int))] ∧ H'' = H', fun σ' H'' h => ?_, ?_⟩
          · obtain ⟨rfl, rfl⟩ := h
            exact ⟨j, Nat.lt_succ_self j, rfl, rfl, hg2, by omega⟩
          · refine ⟨_, rfl, _, _, rfl, rfl, ?_, rfl⟩
            show [some (V.ref l), some (V.int p), some (V.int (((j + 1 : Nat) : Int) - 1))] = _
            rw [show ((j + 1 : Nat) : Int) - 1 = ((j : Nat) : Int) by omega]
        · rw [decide_eq_false hc]
          rw [if_neg hc] at hg2
          refine iteF ⟨_, rfl, ?_⟩
          rw [← hg2] at q
          exact q

/-! ### call_in -/
abbrev sCall : Stmt := topS 19
theorem scCall : FnScope ["line", "person", "old", "new"] ["line", "person"] (defScope sCall) := ⟨rfl, rfl, rfl, by decide +kernel, rfl, by decide +kernel, by decide +kernel⟩
def spCall : Sp := fun vs H Q _ => ∃ (l : Addr) (ns : List Int) (p : Int), vs = [.ref l, .int p] ∧ FT H l (vi ns) ∧ p ∈ ns ∧ ns.length ≤ 1000 ∧ ∀ (H' : Hp) (r : Addr), Same H H' → FT H' r (vi (callF ns p)) → Q (.ref r) H'
theorem has_call (D : Def K mg "call_in" sCall ["line", "person"]) (G : Has P w K mg base 1 "goal_in" ["line", "person"] spGoal) : Has P w K mg base 2 "call_in" ["line", "person"] spCall := by
  refine D.has fun f fd F => F.ok scCall (fun vs H Q E h => ?_) (fun cdv A outer s H vs Q E hr h => ?_)
  · obtain ⟨l, ns, p, rfl, _⟩ := h
    rfl
  · obtain ⟨l, ns, p, rfl, hl, hp, hz, k⟩ := h
    have hi := idx_lt hp
    have hg : goalP ns p ≤ ns.idxOf p := goalF_le ns p _
    refine ⟨_, pss_cons (ps_par (i := 2) (j := 3) (by rfl) scCall.nd rfl rfl (by decide) rfl rfl (pa_cons (pe_tidx (pv 0) (pv 1)) (pa_cons (pe_has G hr (by rfl) (pa_cons (pv 0) (pa_cons (pv 1) pa_nil))) pa_nil)) (by rfl))
      (pss_one (ps_ret (pe_tupF (StX.pa_star (pe_slice sl_tupA (pv 0) po_none (po_some (pv 3))) (pa_cons (pv 1) (StX.pa_star (pe_slice sl_tupA (pv 0) (po_some (pv 3)) (po_some (pv 2)))
        (StX.pa_star (pe_slice sl_tupA (pv 0) (po_some (pe_op op_add (pv 2) pe_int)) po_none) pa_nil))))))), ?_⟩
    refine ⟨_, rfl, l, ns, rfl, hl, _, rfl, p, rfl, hl, hp, _, rfl, _, rfl, l, ns, p, rfl, hl, hp, _, _, rfl, ?_⟩
    refine ⟨_, rfl, _, rfl, _, rfl, cut_any hl.seq fun H1 a1 s1 h1 => ⟨a1, _, rfl, .inl h1, _, rfl, ?_⟩⟩
    refine ⟨_, rfl, _, rfl, _, rfl, _, rfl, _, rfl, cut_any (hl.keep s1).seq fun H2 a2 s2 h2 => ⟨a2, _, rfl, .inl h2, ?_⟩⟩
    refine ⟨_, rfl, _, rfl, _, _, rfl, rfl, _, rfl, ?_⟩
    refine no_part ?_
    refine cut_any ((hl.keep s1).keep s2).seq fun H3 a3 s3 h3 => ⟨a3, _, rfl, .inl h3, ?_⟩
    have e4 : cutV (vi ns) Option.none (some ((goalP ns p : Nat) : Int)) ++ (V.int p :: (cutV (vi ns) (some ((goalP ns p : Nat) : Int)) (some ((ns.idxOf p : Nat) : Int)) ++ (cutV (vi ns) (some (((ns.idxOf p : Nat) : Int) + 1)) Option.none ++ []))) = vi (callF ns p) := by
      rw [cut_to (by omega), cut_in (by omega) (by omega), List.append_nil, show ((ns.idxOf p : Nat) : Int) + 1 = ((ns.idxOf p + 1 : Nat) : Int) by omega, cut_from (by omega), call_vi]
    show List.length (cutV (vi ns) Option.none (some ((goalP ns p : Nat) : Int)) ++ (V.int p :: (cutV (vi ns) (some ((goalP ns p : Nat) : Int)) (some ((ns.idxOf p : Nat) : Int)) ++ (cutV (vi ns) (some (((ns.idxOf p : Nat) : Int) + 1)) Option.none ++ [])))) ≤ sizeLine ∧
      ∀ (q : Addr) (o : Obj), H3 q = Option.none → o.dict = Option.none → Q (.ref q) (upd H3 q (.frz o (.tup (cutV (vi ns) Option.none (some ((goalP ns p : Nat) : Int)) ++ (V.int p :: (cutV (vi ns) (some ((goalP ns p : Nat) : Int)) (some ((ns.idxOf p : Nat) : Int)) ++ (cutV (vi ns) (some (((ns.idxOf p : Nat) : Int) + 1)) Option.none ++ [])))))))
    rw [e4]
    refine ⟨sz5 (by rw [List.length_map, call_len ns p hp]; exact hz), fun q o nq nd => ?_⟩
    exact k _ q (((s1.trans s2).trans s3).trans (Same.new nq)) (FT.made nd)
end
end Ov
/-! Movers, stories, data compared. -/
namespace Ov
open PySem PySem.Spec PyProof.Rows L2 OvR
/-! ### data of ints -/
theorem dp_ints {K : PySem.W.Frag} {H : Hp} : ∀ ns : List Int, DpAll K H (vi ns) (ns.map PyData.int)
  | [] => .nil
  | n :: r => .cons (.int n) (dp_ints r)
theorem lay_ints : ∀ ns : List Int, PyData.canLayAll0 (ns.map PyData.int) = true
  | [] => by simp only [List.map_nil, PyData.canLayAll0]
  | n :: r => by simp only [List.map_cons, PyData.canLayAll0, PyData.canLay0, lay_ints r, Bool.and_self]
theorem depth_ints : ∀ ns : List Int, PyData.depthAll (ns.map PyData.int) = 0
  | [] => by simp only [List.map_nil, PyData.depthAll]
  | n :: r => by simp only [List.map_cons, PyData.depthAll, PyData.depth, depth_ints r, Nat.max_self]
theorem shaped_tup (ns : List Int) : SeqAt.shaped (.tuple (ns.map PyData.int)) = true := by
  unfold SeqAt.shaped
  simp only [PyData.canLay0, lay_ints, PyData.depth, depth_ints, Bool.true_and]
  decide
theorem shaped_lst (ns : List Int) : SeqAt.shaped (.list (ns.map PyData.int)) = true := by
  unfold SeqAt.shaped
  simp only [PyData.canLay0, lay_ints, PyData.depth, depth_ints, Bool.true_and]
  decide
theorem eqv_ints : ∀ a b : List Int, PyData.eqvAll (a.map PyData.int) (b.map PyData.int) = decide (a = b)
  | [], [] => by simp [PyData.eqvAll]
  | [], _ :: _ => by simp [PyData.eqvAll]
  | _ :: _, [] => by simp [PyData.eqvAll]
  | x :: a, y :: b => by
    simp only [List.map_cons, PyData.eqvAll, PyData.eqv, eqv_ints a b]
    rw [Bool.eq_iff_iff]
    simp
theorem eqv_tup (a b : List Int) : PyData.eqv (.tuple (a.map PyData.int)) (.tuple (b.map PyData.int)) = decide (a = b) := by
  rw [PyData.eqv, eqv_ints]
theorem eqv_nil (ds : List PyData) : PyData.eqv (.list ds) (.list []) = ds.isEmpty := by
  cases ds <;> simp [PyData.eqv, PyData.eqvAll]
theorem all_find {α : Type} (g : α → Bool) : ∀ L : List α, (L.map g).all id = (L.find? fun l => !g l).isNone
  | [] => rfl
  | x :: L => by
    rw [List.map_cons, List.all_cons, List.find?_cons, all_find g L]
    cases h : g x <;> simp [h]
theorem rg_vi (n : Nat) : rgV 0 (n : Int) = vi (rng n) := by
  unfold rgV rng vi
  rw [Int.sub_zero, Int.toNat_natCast, List.map_map]
  refine List.map_congr_left fun i _ => ?_
  show V.int (0 + ((i : Nat) : Int)) = V.int ((i : Nat) : Int)
  rw [Int.zero_add]
theorem rng_len (n : Nat) : (rng n).length = n := by
  unfold rng
  rw [List.length_map, List.length_range]
/-- the movers among the first places -/
def movK (ns : List Int) (k : Nat) : List Int := ((List.range k).filter fun i => decide (ns.getD i 0 < ns.getD (i + 1) 0)).map fun i => ns.getD (i + 1) 0
theorem movK_succ (ns : List Int) (k : Nat) : movK ns (k + 1) = movK ns k ++ (if ns.getD k 0 < ns.getD (k + 1) 0 then [ns.getD (k + 1) 0] else []) := by
  unfold movK
  rw [List.range_succ, List.filter_append, List.map_append, List.filter_cons]
  by_cases h : ns.getD k 0 < ns.getD (k + 1) 0
  · rw [if_pos h, if_pos (decide_eq_true h)]
    rfl
  · rw [if_neg h, if_neg (by rw [decide_eq_false h]; decide)]
    rfl
theorem movK_len (ns : List Int) (k : Nat) : (movK ns k).length ≤ k := by
  unfold movK
  rw [List.length_map]
  have h := List.length_filter_le (fun i => decide (ns.getD i 0 < ns.getD (i + 1) 0)) (List.range k)
  rw [List.length_range] at h
  exact h

section
variable {P : Program} {w : World} {K : PySem.W.Frag} {mg : Str → Option Value} {base : Heap}
/-! ### movers_in -/
abbrev sMov : Stmt := topS 20
theorem scMov : FnScope ["line", "at"] ["line"] (defScope sMov) := ⟨rfl, rfl, rfl, by decide +kernel, rfl, by decide +kernel, by decide +kernel⟩
def spMov (K : PySem.W.Frag) : Sp := fun vs H Q _ => ∃ (l : Addr) (ns : List Int), vs = [.ref l] ∧ SqT K H l (vi ns) ∧ ns.length ≤ 1000 ∧ ∀ (H' : Hp) (r : Addr) (ms : List Int), Same H H' → ms.Perm (moversR ns) → SqL K H' r (vi ms) → Q (.ref r) H'
theorem has_mov (D : Def K mg "movers_in" sMov ["line"]) (T : Txt mg) : Has P w K mg base 1 "movers_in" ["line"] (spMov K) := by
  refine D.has fun f fd F => F.ok scMov (fun vs H Q E h => ?_) (fun cdv A outer s H vs Q E hr h => ?_)
  · obtain ⟨l, ns, rfl, _⟩ := h
    rfl
  · obtain ⟨l, ns, rfl, hl, hz, k⟩ := h
    refine ⟨_, pss_one (ps_ret (pe_callB cr_sortedI (by rfl) T.sorted (by decide +kernel) (pa_cons (pe_lc (own := [("at", 1)]) (g := gName 1)
      (tt := tTest (tOp (rI0 fun i j => .bl (decide (i < j))) (tOp (rIxT K) (tVar 0) (tOp (rI0 fun i j => .int (i - j)) (tVar 1) (tC (.int 1)))) (tOp (rIxT K) (tVar 0) (tVar 1)))) (te := tOp (rIxT K) (tVar 0) (tVar 1)) rfl scMov.nd
      (pi_range2 (by rfl) T.range (pa_cons pe_int (pa_cons (pe_callB call_len_seq (by rfl) T.len PySem.boot_len (pa_cons (pv 0) pa_nil)) pa_nil)))
      (blkOk_by (N := ["line", "at"]) (sc := defScope sMov) (by decide +kernel)) (fun _ _ _ _ _ => pg_name (i := 1) scMov.nd rfl (.inl rfl))
      (fun _ _ _ _ _ => pts_one (pt_cmpR op_lt (pe_ix ix_tup (pv 0) (pe_op op_sub (pv 1) pe_int) (fun _ _ => rfl)) (pe_ix ix_tup (pv 0) (pv 1) (fun _ _ => rfl)) (nomark _)))
      (fun _ _ _ _ _ => pe_ix ix_tup (pv 0) (pv 1) (fun _ _ => rfl))) pa_nil))), ?_⟩
    have en : (((vi ns).length : Int) - 1).toNat = ns.length - 1 := by
      rw [List.length_map]
      omega
    refine ⟨_, rfl, l, vi ns, rfl, .inr hl, 1, ((vi ns).length : Int), rfl, ?_, fun D hD => ?_⟩
    · rw [List.length_map]
      omega
    · rw [en]
      refine turns_range (lo := 1) (n := ns.length - 1) (fun i H2 => Same H H2 ∧ H2 D = some (.lst (vi (movK ns i)))) ⟨Same.new hD, upd_same⟩ (fun i H2 hi h => ?_) (fun H2 h => ?_)
      · obtain ⟨s1, hq⟩ := h
        have hl2 : SqT K H2 l (vi ns) := Same.seqT s1 hl
        have e1 : (1 : Int) + ((i : Nat) : Int) = ((i + 1 : Nat) : Int) := by omega
        rw [e1]
        have a1 : atI (vi ns) (((i + 1 : Nat) : Int) - 1) = some (.int (ns.getD i 0)) := by
          rw [show ((i + 1 : Nat) : Int) - 1 = ((i : Nat) : Int) by omega]
          exact at_vi (by omega)
        have a2 : atI (vi ns) ((i + 1 : Nat) : Int) = some (.int (ns.getD (i + 1) 0)) := at_vi (by omega)
        refine ⟨rfl, _, rfl, _, rfl, _, _, rfl, rfl, l, vi ns, _, .int (ns.getD i 0), rfl, rfl, hl2, a1, _, rfl, _, rfl, l, vi ns, _, .int (ns.getD (i + 1) 0), rfl, rfl, hl2, a2, _, _, rfl, rfl, _, rfl, ?_⟩
        by_cases hc : ns.getD i 0 < ns.getD (i + 1) 0
        · rw [decide_eq_true hc]
          refine iteT ⟨_, rfl, _, rfl, l, vi ns, _, .int (ns.getD (i + 1) 0), rfl, rfl, hl2, a2, vi (movK ns i), hq, ?_, Same.mut s1 hD, ?_⟩
          · rw [List.length_map]
            have := movK_len ns i
            exact small1000 (by omega)
          · rw [upd_same, movK_succ, if_pos hc]
            show _ = some (HO.lst (List.map V.int (movK ns i ++ [ns.getD (i + 1) 0])))
            rw [List.map_append]
            rfl
        · rw [decide_eq_false hc]
          refine iteF ⟨s1, ?_⟩
          rw [movK_succ, if_neg hc, List.append_nil]
          exact hq
      · obtain ⟨s1, hq⟩ := h
        exact ⟨D, movK ns (ns.length - 1), rfl, .inl (.inl hq), fun ms p hp _ np => k _ p ms (s1.trans (Same.new np)) hp (.inl (.inl upd_same))⟩

/-! ### story_in -/
abbrev sStory : Stmt := topS 21
theorem scStory : FnScope ["line", "calls", "found", "person"] ["line", "calls"] (defScope sStory) := ⟨rfl, rfl, rfl, by decide +kernel, rfl, by decide +kernel, by decide +kernel⟩
def spStory (K : PySem.W.Frag) : Sp := fun vs H Q _ => ∃ (l c : Addr) (n : Nat) (ns cs : List Int), vs = [.ref l, .ref c] ∧ FT H l (vi ns) ∧ Ln n ns ∧ SqT K H c (vi cs) ∧ Row n cs ∧ cs.length ≤ 60 ∧
  ∀ (H' : Hp) (r t : Addr) (xs : List V), Same H H' → SqL K H' r (xs ++ [.ref t]) → FT H' t (vi (doneF ns cs)) → Q (.ref r) H'
theorem has_story (D : Def K mg "story_in" sStory ["line", "calls"]) (G : Has P w K mg base 2 "call_in" ["line", "person"] spCall) : Has P w K mg base 3 "story_in" ["line", "calls"] (spStory K) := by
  refine D.has fun f fd F => F.ok scStory (fun vs H Q E h => ?_) (fun cdv A outer s H vs Q E hr h => ?_)
  · obtain ⟨l, c, n, ns, cs, rfl, _⟩ := h
    rfl
  · obtain ⟨l, c, n, ns, cs, rfl, hl, hln, hc, hrow, hz, k⟩ := h
    refine ⟨_, pss_cons (ps_set (i := 2) scStory.nd rfl (.inl rfl) (pe_lst (pa_cons (pv 0) pa_nil)))
      (pss_cons (ps_for PassesOwn.never rfl (pi_tup (pv 1)) (pg_name (i := 3) scStory.nd rfl (.inl rfl))
        (pss_one (ps_expr (pe_bm PySem.F.plainAttrs_list PySem.F.slot_list_append PySem.F.type_list_append mt_append (pv 2) (pa_cons (pe_has G hr (by rfl) (pa_cons (pe_ix ix_list (pv 2) (pe_un un_neg pe_int) (fun _ _ => rfl)) (pa_cons (pv 3) pa_nil))) pa_nil)))))
      (pss_one (ps_ret (pv 2)))), ?_⟩
    refine ⟨_, rfl, sz5 (show 1 ≤ 1000 by decide), fun q nq => ?_⟩
    refine ⟨_, rfl, c, rfl, ⟨_, Same.seqT (Same.new nq) hc⟩, ?_⟩
    refine for_tup (K := K) (a := c) (xs := vi cs) (fun i σ H' => ∃ (xs : List V) (t : Addr) (v : Option V), σ = [some (.ref l), some (.ref c), some (.ref q), v] ∧ Same H H' ∧ H' q = some (.lst (xs ++ [.ref t])) ∧ FT H' t (vi (doneF ns (cs.take i))) ∧ xs.length = i)
      ⟨[], l, Option.none, rfl, Same.new nq, upd_same, hl.keep (Same.new nq), rfl⟩ (fun i σ H' _ h => ?_) (fun i x σ H' hx h => ?_) (fun σ H' h => ?_)
    · obtain ⟨xs, t, v, _, s1, _⟩ := h
      exact Same.seqT s1 hc
    · obtain ⟨xs, t, v, rfl, s1, hq, ht, hlen⟩ := h
      obtain ⟨c0, hg, rfl⟩ := vi_get hx
      have hi : i < cs.length := (List.getElem?_eq_some_iff.mp hg).1
      have hrt : Row n (cs.take i) := fun d hd => hrow d (List.mem_of_mem_take hd)
      have hL := done_ln hln hrt
      have hp := hrow c0 (List.mem_of_getElem? hg)
      have n4 := hln.1.2
      refine ⟨_, rfl, .inl ⟨rfl, _, .inl (.inl hq)⟩, _, rfl, _, rfl, q, _, _, .ref t, rfl, rfl, .inl (.inl hq), atI_last _ _, _, rfl, t, _, c0, rfl, ht, ln_mem hL hp, by rw [ln_len hL]; omega, fun H2 r s2 hr2 => ?_⟩
      have hq2 := s2 _ _ hq
      refine ⟨q, _, .ref r, rfl, rfl, hq2, ?_, ?_⟩
      · rw [List.length_append, List.length_singleton]
        exact small1000 (by omega)
      · refine ⟨xs ++ [.ref t], r, _, rfl, Same.mut (s1.trans s2) nq, upd_same, ftUpd ?_ hq2, ?_⟩
        · rw [take_done ns cs i c0 hg]
          exact hr2
        · rw [List.length_append, List.length_singleton, hlen]
    · obtain ⟨xs, t, v, rfl, s1, hq, ht, hlen⟩ := h
      rw [List.length_map, List.take_length] at ht
      exact ⟨_, rfl, k H' q t xs s1 (.inl (.inl hq)) ht⟩

/-! ### need_rows -/
abbrev sRows : Stmt := topS 23
theorem scRows : FnScope ["size", "one", "other"] ["size", "one", "other"] (defScope sRows) := ⟨rfl, rfl, rfl, by decide +kernel, rfl, by decide +kernel, by decide +kernel⟩
/-- a row of calls at an address -/
def RowAt (K : PySem.W.Frag) (H : Hp) (n : Nat) (a : Addr) (cs : List Int) : Prop := SqT K H a (vi cs) ∧ Row n cs ∧ cs.length ≤ 60
theorem RowAt.keep {H H' : Hp} {n : Nat} {a : Addr} {cs : List Int} (e : Same H H') (h : RowAt K H n a cs) : RowAt K H' n a cs := ⟨Same.seqT e h.1, h.2⟩
def spRows (K : PySem.W.Frag) : Sp := fun vs H Q _ => ∃ (n : Nat) (a b : Addr) (one other : List Int), vs = [.int (n : Int), .ref a, .ref b] ∧ Sz n ∧ RowAt K H n a one ∧ RowAt K H n b other ∧ ∀ H' : Hp, Same H H' → Q .non H'
theorem has_rows (D : Def K mg "need_rows" sRows ["size", "one", "other"]) (T : Txt mg) (GS : Has P w K mg base 3 "need_size" ["size"] spSize) (GC : Has P w K mg base 3 "need_calls" ["line", "calls"] (spNeedC K)) (GF : Has P w K mg base 1 "factorial" ["many"] spFac) :
    Has P w K mg base 4 "need_rows" ["size", "one", "other"] (spRows K) := by
  refine D.has fun f fd F => F.ok scRows (fun vs H Q E h => ?_) (fun cdv A outer s H vs Q E hr h => ?_)
  · obtain ⟨n, a, b, one, other, rfl, _⟩ := h
    rfl
  · obtain ⟨n, a, b, one, other, rfl, hn, ha, hb, k⟩ := h
    have n1 := hn.1
    have n2 := hn.2
    refine ⟨_, pss_cons (ps_expr (pe_has GS hr (by rfl) (pa_cons (pv 0) pa_nil)))
      (pss_cons (ps_expr (pe_has GC hr (by rfl) (pa_cons (pe_tupRg rfl (by rfl) T.tuple (prg_1 (by rfl) T.range (pv 0))) (pa_cons (pv 1) pa_nil))))
      (pss_cons (ps_expr (pe_has GC hr (by rfl) (pa_cons (pe_tupRg rfl (by rfl) T.tuple (prg_1 (by rfl) T.range (pv 0))) (pa_cons (pv 2) pa_nil))))
      (pss_one (ps_if (pt_cmpR op_gt (pe_has GF (hr.mono (by decide)) (by rfl) (pa_cons (pv 0) pa_nil)) (pe_num T.lines (by rfl)) (nomark _)) (pss_one ps_never) pss_nil)))), ?_⟩
    refine ⟨_, rfl, (n : Int), rfl, by omega, by omega, ?_⟩
    have hrg : RgOk 0 (n : Int) := RgOk.of_le (by omega) (by omega) (by omega) (by omega)
    refine ⟨_, rfl, (n : Int), rfl, hrg, fun p np => ?_⟩
    have s1 := Same.new (o := .tup (rgV 0 (n : Int))) np
    refine ⟨_, rfl, p, a, n, _, one, rfl, .inl (.inl upd_same), ?_, (ha.keep s1).1, ha.2.2, ha.2.1, fun H1 s2 => ?_⟩
    · rw [rgV_length]
      omega
    · refine ⟨_, rfl, (n : Int), rfl, hrg, fun q nq => ?_⟩
      have s3 := Same.new (o := .tup (rgV 0 (n : Int))) nq
      refine ⟨_, rfl, q, b, n, _, other, rfl, .inl (.inl upd_same), ?_, (((hb.keep s1).keep s2).keep s3).1, hb.2.2, hb.2.1, fun H2 s4 => ?_⟩
      · rw [rgV_length]
        omega
      · refine ⟨_, rfl, n, rfl, hn, _, _, rfl, rfl, _, rfl, ?_⟩
        rw [decide_eq_false (by have := fac_ok hn; omega)]
        exact iteF (k _ (((s1.trans s2).trans s3).trans s4))
end
end Ov
/-! The four that are asked. -/
namespace Ov
open PySem PySem.Spec PyProof.Rows L2 OvR
theorem find_at {α : Type} {g : α → Bool} : ∀ {L : List α} {i : Nat} {x : α}, (L.take i).find? g = Option.none → L[i]? = some x → g x = true → L.find? g = some x
  | [], _, _, _, h, _ => by simp at h
  | a :: L, 0, x, _, h, hg => by
    have e : a = x := Option.some.inj h
    rw [List.find?_cons, e, hg]
  | a :: L, i + 1, x, h0, h, hg => by
    rw [List.take_succ_cons, List.find?_cons] at h0
    rw [List.find?_cons]
    cases ha : g a with
    | true =>
      rw [ha] at h0
      cases h0
    | false =>
      rw [ha] at h0
      exact find_at (i := i) h0 h hg
theorem find_next {α : Type} {g : α → Bool} {L : List α} {i : Nat} {x : α} (h0 : (L.take i).find? g = Option.none) (h : L[i]? = some x) (hg : g x = false) : (L.take (i + 1)).find? g = Option.none := by
  rw [List.take_add_one, h, List.find?_append, h0]
  show Option.or Option.none (List.find? g [x]) = Option.none
  rw [List.find?_cons, hg]
  rfl
theorem perm_empty {α : Type} {a b : List α} (h : a.Perm b) : a.isEmpty = b.isEmpty := by
  have e := h.length_eq
  cases a <;> cases b <;> simp at e ⊢
/-- a line or None, as a value -/
def OptV (K : PySem.W.Frag) (H : Hp) (v : V) : Option (List Int) → Prop
  | Option.none => v = .non
  | some l => ∃ r, v = .ref r ∧ SqT K H r (vi l)
theorem OptV.keep {K : PySem.W.Frag} {H H' : Hp} {v : V} {o : Option (List Int)} (e : Same H H') (h : OptV K H v o) : OptV K H' v o := by
  cases o with
  | none => exact h
  | some l =>
    obtain ⟨r, h1, h2⟩ := h
    exact ⟨r, h1, Same.seqT e h2⟩
section
variable {P : Program} {w : World} {K : PySem.W.Frag} {mg : Str → Option Value} {base : Heap}
/-- what the four name -/
structure Asks (P : Program) (w : World) (K : PySem.W.Frag) (mg : Str → Option Value) (base : Heap) : Prop where
  rows : Has P w K mg base 4 "need_rows" ["size", "one", "other"] (spRows K)
  lines : Has P w K mg base 1 "all_lines" ["size"] (spLines K)
  story : Has P w K mg base 3 "story_in" ["line", "calls"] (spStory K)
  mov : Has P w K mg base 1 "movers_in" ["line"] (spMov K)
/-! ### telling, does_same -/
abbrev sTell : Stmt := topS 24
theorem scTell : FnScope ["size", "one", "other", "line"] ["size", "one", "other"] (defScope sTell) := ⟨rfl, rfl, rfl, by decide +kernel, rfl, by decide +kernel, by decide +kernel⟩
def spTell (K : PySem.W.Frag) : Sp := fun vs H Q _ => ∃ (n : Nat) (a b : Addr) (one other : List Int), vs = [.int (n : Int), .ref a, .ref b] ∧ Sz n ∧ RowAt K H n a one ∧ RowAt K H n b other ∧ ∀ (H' : Hp) (v : V), Same H H' → OptV K H' v (tellF n one other) → Q v H'
theorem has_tell (D : Def K mg "telling" sTell ["size", "one", "other"]) (G : Asks P w K mg base) : Has P w K mg base 5 "telling" ["size", "one", "other"] (spTell K) := by
  refine D.has fun f fd F => F.ok scTell (fun vs H Q E h => ?_) (fun cdv A outer s H vs Q E hr h => ?_)
  · obtain ⟨n, a, b, one, other, rfl, _⟩ := h
    rfl
  · obtain ⟨n, a, b, one, other, rfl, hn, ha, hb, k⟩ := h
    have r3 : Room 3 _ := hr.mono (by decide)
    refine ⟨_, pss_cons (ps_expr (pe_has G.rows hr (by rfl) (pa_cons (pv 0) (pa_cons (pv 1) (pa_cons (pv 2) pa_nil)))))
      (pss_cons (ps_for PassesOwn.never rfl (pi_list (pe_has G.lines (hr.mono (by decide)) (by rfl) (pa_cons (pv 0) pa_nil))) (pg_name (i := 3) scTell.nd rfl (.inl rfl))
        (pss_one (ps_if (pt_cmpR (op_neD hr.units) (pe_ix ix_list (pe_has G.story r3 (by rfl) (pa_cons (pv 3) (pa_cons (pv 1) pa_nil))) (pe_un un_neg pe_int) (fun _ _ => rfl))
          (pe_ix ix_list (pe_has G.story r3 (by rfl) (pa_cons (pv 3) (pa_cons (pv 2) pa_nil))) (pe_un un_neg pe_int) (fun _ _ => rfl)) (nomark _)) (pss_one (ps_ret (pv 3))) pss_nil)))
      (pss_one (ps_ret pe_non))), ?_⟩
    refine ⟨_, rfl, _, rfl, _, rfl, n, a, b, one, other, rfl, hn, ha, hb, fun H1 s1 => ?_⟩
    refine ⟨_, rfl, n, rfl, hn, fun H2 r xs s2 hr2 hA => ⟨r, rfl, ⟨xs, hr2⟩, ?_⟩⟩
    refine for_list (K := K) (a := r) (xs := xs) (fun i σ H' => ∃ v : Option V, σ = [some (.int (n : Int)), some (.ref a), some (.ref b), v] ∧ Same H2 H' ∧ ((linesF n).take i).find? (partsF one other) = Option.none)
      ⟨Option.none, rfl, Same.refl H2, rfl⟩ (fun i σ H' _ h => ?_) (fun i x σ H' hx h => ?_) (fun σ H' h => ?_)
    · obtain ⟨v, _, s3, _⟩ := h
      exact s3.seq hr2
    · obtain ⟨v, rfl, s3, hf⟩ := h
      obtain ⟨l, hl, c, rfl, hc⟩ := pair_get hA hx
      have hln : Ln n l := ⟨hn, List.mem_of_getElem? hl⟩
      have s4 := (s1.trans s2).trans s3
      refine ⟨_, rfl, _, rfl, c, a, n, l, one, rfl, hc.keep s3, hln, (ha.keep s4).1, ha.2.1, ha.2.2, fun H5 q t ys s5 hq ht => ?_⟩
      refine ⟨_, rfl, q, _, _, .ref t, rfl, rfl, hq, atI_last _ _, ?_⟩
      refine ⟨_, rfl, _, rfl, c, b, n, l, other, rfl, (hc.keep s3).keep s5, hln, ((hb.keep s4).keep s5).1, hb.2.1, hb.2.2, fun H6 q2 t2 ys2 s6 hq2 ht2 => ?_⟩
      refine ⟨_, rfl, q2, _, _, .ref t2, rfl, rfl, hq2, atI_last _ _, ?_⟩
      refine ⟨.tuple ((doneF l one).map PyData.int), .tuple ((doneF l other).map PyData.int), .tup (ht.keep s6).seq (dp_ints _), .tup ht2.seq (dp_ints _), shaped_tup _, shaped_tup _, _, rfl, ?_⟩
      rw [eqv_tup]
      cases hp : partsF one other l with
      | true =>
        have hp2 : (!decide (doneF l one = doneF l other)) = true := hp
        rw [hp2]
        refine iteT ⟨_, rfl, ?_⟩
        refine k H6 (.ref c) ((s4.trans s5).trans s6) ?_
        have e : tellF n one other = some l := find_at hf hl hp
        rw [e]
        exact ⟨c, rfl, (((hc.keep s3).keep s5).keep s6).seq⟩
      | false =>
        have hp2 : (!decide (doneF l one = doneF l other)) = false := hp
        rw [hp2]
        exact iteF ⟨_, rfl, (s3.trans s5).trans s6, find_next hf hl hp⟩
    · obtain ⟨v, rfl, s3, hf⟩ := h
      rw [hA.len, List.take_length] at hf
      refine k H' .non ((s1.trans s2).trans s3) ?_
      have e : tellF n one other = Option.none := hf
      rw [e]
      rfl
abbrev sSame : Stmt := topS 25
theorem scSame : FnScope ["size", "one", "other", "line"] ["size", "one", "other"] (defScope sSame) := ⟨rfl, rfl, rfl, by decide +kernel, rfl, by decide +kernel, by decide +kernel⟩
def spSame (K : PySem.W.Frag) : Sp := fun vs H Q _ => ∃ (n : Nat) (a b : Addr) (one other : List Int), vs = [.int (n : Int), .ref a, .ref b] ∧ Sz n ∧ RowAt K H n a one ∧ RowAt K H n b other ∧ ∀ H' : Hp, Same H H' → Q (.bl (tellF n one other).isNone) H'
theorem has_same (D : Def K mg "does_same" sSame ["size", "one", "other"]) (G : Asks P w K mg base) : Has P w K mg base 5 "does_same" ["size", "one", "other"] (spSame K) := by
  refine D.has fun f fd F => F.ok scSame (fun vs H Q E h => ?_) (fun cdv A outer s H vs Q E hr h => ?_)
  · obtain ⟨n, a, b, one, other, rfl, _⟩ := h
    rfl
  · obtain ⟨n, a, b, one, other, rfl, hn, ha, hb, k⟩ := h
    have r3 : Room 3 _ := hr.mono (by decide)
    refine ⟨_, pss_cons (ps_expr (pe_has G.rows hr (by rfl) (pa_cons (pv 0) (pa_cons (pv 1) (pa_cons (pv 2) pa_nil)))))
      (pss_cons (ps_for PassesOwn.never rfl (pi_list (pe_has G.lines (hr.mono (by decide)) (by rfl) (pa_cons (pv 0) pa_nil))) (pg_name (i := 3) scSame.nd rfl (.inl rfl))
        (pss_one (ps_if (pt_cmpR (op_neD hr.units) (pe_ix ix_list (pe_has G.story r3 (by rfl) (pa_cons (pv 3) (pa_cons (pv 1) pa_nil))) (pe_un un_neg pe_int) (fun _ _ => rfl))
          (pe_ix ix_list (pe_has G.story r3 (by rfl) (pa_cons (pv 3) (pa_cons (pv 2) pa_nil))) (pe_un un_neg pe_int) (fun _ _ => rfl)) (nomark _)) (pss_one (ps_ret pe_bl)) pss_nil)))
      (pss_one (ps_ret pe_bl))), ?_⟩
    refine ⟨_, rfl, _, rfl, _, rfl, n, a, b, one, other, rfl, hn, ha, hb, fun H1 s1 => ?_⟩
    refine ⟨_, rfl, n, rfl, hn, fun H2 r xs s2 hr2 hA => ⟨r, rfl, ⟨xs, hr2⟩, ?_⟩⟩
    refine for_list (K := K) (a := r) (xs := xs) (fun i σ H' => ∃ v : Option V, σ = [some (.int (n : Int)), some (.ref a), some (.ref b), v] ∧ Same H2 H' ∧ ((linesF n).take i).find? (partsF one other) = Option.none)
      ⟨Option.none, rfl, Same.refl H2, rfl⟩ (fun i σ H' _ h => ?_) (fun i x σ H' hx h => ?_) (fun σ H' h => ?_)
    · obtain ⟨v, _, s3, _⟩ := h
      exact s3.seq hr2
    · obtain ⟨v, rfl, s3, hf⟩ := h
      obtain ⟨l, hl, c, rfl, hc⟩ := pair_get hA hx
      have hln : Ln n l := ⟨hn, List.mem_of_getElem? hl⟩
      have s4 := (s1.trans s2).trans s3
      refine ⟨_, rfl, _, rfl, c, a, n, l, one, rfl, hc.keep s3, hln, (ha.keep s4).1, ha.2.1, ha.2.2, fun H5 q t ys s5 hq ht => ?_⟩
      refine ⟨_, rfl, q, _, _, .ref t, rfl, rfl, hq, atI_last _ _, ?_⟩
      refine ⟨_, rfl, _, rfl, c, b, n, l, other, rfl, (hc.keep s3).keep s5, hln, ((hb.keep s4).keep s5).1, hb.2.1, hb.2.2, fun H6 q2 t2 ys2 s6 hq2 ht2 => ?_⟩
      refine ⟨_, rfl, q2, _, _, .ref t2, rfl, rfl, hq2, atI_last _ _, ?_⟩
      refine ⟨.tuple ((doneF l one).map PyData.int), .tuple ((doneF l other).map PyData.int), .tup (ht.keep s6).seq (dp_ints _), .tup ht2.seq (dp_ints _), shaped_tup _, shaped_tup _, _, rfl, ?_⟩
      rw [eqv_tup]
      cases hp : partsF one other l with
      | true =>
        have hp2 : (!decide (doneF l one = doneF l other)) = true := hp
        rw [hp2]
        refine iteT ?_
        have g := k H6 ((s4.trans s5).trans s6)
        have e : tellF n one other = some l := find_at hf hl hp
        rw [e] at g
        exact g
      | false =>
        have hp2 : (!decide (doneF l one = doneF l other)) = false := hp
        rw [hp2]
        exact iteF ⟨_, rfl, (s3.trans s5).trans s6, find_next hf hl hp⟩
    · obtain ⟨v, rfl, s3, hf⟩ := h
      rw [hA.len, List.take_length] at hf
      have g := k H' ((s1.trans s2).trans s3)
      have e : tellF n one other = Option.none := hf
      rw [e] at g
      exact g
/-! ### does_rest, restless_line -/
abbrev sRest : Stmt := topS 26
theorem scRest : FnScope ["size", "calls", "line"] ["size", "calls"] (defScope sRest) := ⟨rfl, rfl, rfl, by decide +kernel, rfl, by decide +kernel, by decide +kernel⟩
def spRest (K : PySem.W.Frag) : Sp := fun vs H Q _ => ∃ (n : Nat) (a : Addr) (cs : List Int), vs = [.int (n : Int), .ref a] ∧ Sz n ∧ RowAt K H n a cs ∧ ∀ H' : Hp, Same H H' → Q (.bl (restF n cs).isNone) H'
def calmF (cs l : List Int) : Bool := (moversR (doneF l cs)).isEmpty
theorem has_rest (D : Def K mg "does_rest" sRest ["size", "calls"]) (T : Txt mg) (G : Asks P w K mg base) : Has P w K mg base 5 "does_rest" ["size", "calls"] (spRest K) := by
  refine D.has fun f fd F => F.ok scRest (fun vs H Q E h => ?_) (fun cdv A outer s H vs Q E hr h => ?_)
  · obtain ⟨n, a, cs, rfl, _⟩ := h
    rfl
  · obtain ⟨n, a, cs, rfl, hn, ha, k⟩ := h
    have r3 : Room 3 _ := hr.mono (by decide)
    have r1 : Room 1 _ := hr.mono (by decide)
    refine ⟨_, pss_cons (ps_expr (pe_has G.rows hr (by rfl) (pa_cons (pv 0) (pa_cons (pv 1) (pa_cons (pv 1) pa_nil)))))
      (pss_one (ps_ret (pe_callB (cr_all rfl) (by rfl) T.all (by decide +kernel) (pa_cons (pe_lc (own := [("line", 2)]) (g := gName 2) (tt := tYes)
        (te := tOp (rEqD K) (tCall (spMov K) [] E0 (tCons (tOp (rIxL K) (tCall (spStory K) [] E0 (tCons (tVar 2) (tCons (tVar 1) tNil))) (tUn (rU fun i => .int (-i)) (tC (.int 1)))) tNil)) (tLst tNil)) rfl scRest.nd
        (pi_list (pe_has G.lines r1 (by rfl) (pa_cons (pv 0) pa_nil))) (blkOk_by (N := ["size", "calls", "line"]) (sc := defScope sRest) (by decide +kernel)) (fun _ _ _ _ _ => pg_name (i := 2) scRest.nd rfl (.inl rfl)) (fun _ _ _ _ _ => pts_nil)
        (fun _ _ _ _ _ => pe_cmpR (op_eqD hr.units) (pe_has G.mov r1 (by rfl) (pa_cons (pe_ix ix_list (pe_has G.story r3 (by rfl) (pa_cons (pv 2) (pa_cons (pv 1) pa_nil))) (pe_un un_neg pe_int) (fun _ _ => rfl)) pa_nil)) (pe_lst pa_nil) (by rfl))) pa_nil)))), ?_⟩
    refine ⟨_, rfl, _, rfl, _, rfl, n, a, a, cs, cs, rfl, hn, ha, ha, fun H1 s1 => ?_⟩
    refine ⟨_, rfl, n, rfl, hn, fun H2 r xs s2 hr2 hA => ⟨r, rfl, ⟨xs, hr2⟩, fun D2 hD => ?_⟩⟩
    refine turns_list (xs := xs) (fun i H' => Same H2 H' ∧ H' D2 = some (.lst ((((linesF n).take i).map (calmF cs)).map V.bl))) ⟨Same.new hD, upd_same⟩ (fun i H' _ h => h.1.seq hr2) (fun i x H' hx h => ?_) (fun H' h => ?_)
    · obtain ⟨s3, hq⟩ := h
      obtain ⟨l, hl, c, rfl, hc⟩ := pair_get hA hx
      have hln : Ln n l := ⟨hn, List.mem_of_getElem? hl⟩
      have hi : i < (linesF n).length := (List.getElem?_eq_some_iff.mp hl).1
      have l24 := (len_parts hn (Nat.le_refl n)).1
      have s4 := (s1.trans s2).trans s3
      have hld := done_ln hln ha.2.1
      refine ⟨rfl, _, rfl, _, rfl, c, a, n, l, cs, rfl, hc.keep s3, hln, (ha.keep s4).1, ha.2.1, ha.2.2, fun H5 q t ys s5 hq5 ht => ?_⟩
      refine ⟨_, rfl, q, _, _, .ref t, rfl, rfl, hq5, atI_last _ _, ?_⟩
      refine ⟨t, _, rfl, ht.seq, by rw [ln_len hld]; have := hn.2; omega, fun H6 u ms s6 hms hu => ?_⟩
      refine ⟨Nat.zero_le _, fun z nz => ?_⟩
      have s7 := Same.new (o := .lst []) nz
      refine ⟨.list (ms.map PyData.int), .list [], .lst (s7.seq hu) (dp_ints _), .lst (.inl (.inl upd_same)) .nil, shaped_lst _, shaped_lst [], ?_⟩
      rw [eqv_nil, show (ms.map PyData.int).isEmpty = calmF cs l by rw [List.isEmpty_map]; exact perm_empty hms]
      have hq7 := s7 _ _ (s6 _ _ (s5 _ _ hq))
      refine ⟨_, hq7, ?_, Same.mut (((s3.trans s5).trans s6).trans s7) hD, ?_⟩
      · rw [List.length_map, List.length_map, List.length_take]
        exact small1000 (by
          have l24' : (linesF n).length ≤ 24 := l24
          omega)
      · rw [upd_same, List.take_add_one, hl, List.map_append, List.map_append]
        rfl
    · obtain ⟨s3, hq⟩ := h
      rw [hA.len, List.take_length] at hq
      refine ⟨D2, (linesF n).map (calmF cs), rfl, .inl (.inl hq), ?_⟩
      have g := k H' ((s1.trans s2).trans s3)
      have e : ((linesF n).map (calmF cs)).all id = (restF n cs).isNone := all_find _ _
      rw [e]
      exact g
abbrev sLess : Stmt := topS 27
theorem scLess : FnScope ["size", "calls", "line"] ["size", "calls"] (defScope sLess) := ⟨rfl, rfl, rfl, by decide +kernel, rfl, by decide +kernel, by decide +kernel⟩
def spLess (K : PySem.W.Frag) : Sp := fun vs H Q _ => ∃ (n : Nat) (a : Addr) (cs : List Int), vs = [.int (n : Int), .ref a] ∧ Sz n ∧ RowAt K H n a cs ∧ ∀ (H' : Hp) (v : V), Same H H' → OptV K H' v (restF n cs) → Q v H'
theorem has_less (D : Def K mg "restless_line" sLess ["size", "calls"]) (G : Asks P w K mg base) : Has P w K mg base 5 "restless_line" ["size", "calls"] (spLess K) := by
  refine D.has fun f fd F => F.ok scLess (fun vs H Q E h => ?_) (fun cdv A outer s H vs Q E hr h => ?_)
  · obtain ⟨n, a, cs, rfl, _⟩ := h
    rfl
  · obtain ⟨n, a, cs, rfl, hn, ha, k⟩ := h
    have r3 : Room 3 _ := hr.mono (by decide)
    have r1 : Room 1 _ := hr.mono (by decide)
    refine ⟨_, pss_cons (ps_expr (pe_has G.rows hr (by rfl) (pa_cons (pv 0) (pa_cons (pv 1) (pa_cons (pv 1) pa_nil)))))
      (pss_cons (ps_for PassesOwn.never rfl (pi_list (pe_has G.lines r1 (by rfl) (pa_cons (pv 0) pa_nil))) (pg_name (i := 2) scLess.nd rfl (.inl rfl))
        (pss_one (ps_if (pt_cmpR (op_neD hr.units) (pe_has G.mov r1 (by rfl) (pa_cons (pe_ix ix_list (pe_has G.story r3 (by rfl) (pa_cons (pv 2) (pa_cons (pv 1) pa_nil))) (pe_un un_neg pe_int) (fun _ _ => rfl)) pa_nil)) (pe_lst pa_nil) (by rfl)) (pss_one (ps_ret (pv 2))) pss_nil)))
      (pss_one (ps_ret pe_non))), ?_⟩
    refine ⟨_, rfl, _, rfl, _, rfl, n, a, a, cs, cs, rfl, hn, ha, ha, fun H1 s1 => ?_⟩
    refine ⟨_, rfl, n, rfl, hn, fun H2 r xs s2 hr2 hA => ⟨r, rfl, ⟨xs, hr2⟩, ?_⟩⟩
    refine for_list (K := K) (a := r) (xs := xs) (fun i σ H' => ∃ v : Option V, σ = [some (.int (n : Int)), some (.ref a), v] ∧ Same H2 H' ∧ ((linesF n).take i).find? (movesF cs) = Option.none)
      ⟨Option.none, rfl, Same.refl H2, rfl⟩ (fun i σ H' _ h => ?_) (fun i x σ H' hx h => ?_) (fun σ H' h => ?_)
    · obtain ⟨v, _, s3, _⟩ := h
      exact s3.seq hr2
    · obtain ⟨v, rfl, s3, hf⟩ := h
      obtain ⟨l, hl, c, rfl, hc⟩ := pair_get hA hx
      have hln : Ln n l := ⟨hn, List.mem_of_getElem? hl⟩
      have s4 := (s1.trans s2).trans s3
      have hld := done_ln hln ha.2.1
      refine ⟨_, rfl, _, rfl, c, a, n, l, cs, rfl, hc.keep s3, hln, (ha.keep s4).1, ha.2.1, ha.2.2, fun H5 q t ys s5 hq5 ht => ?_⟩
      refine ⟨_, rfl, q, _, _, .ref t, rfl, rfl, hq5, atI_last _ _, ?_⟩
      refine ⟨t, _, rfl, ht.seq, by rw [ln_len hld]; have := hn.2; omega, fun H6 u ms s6 hms hu => ?_⟩
      refine ⟨Nat.zero_le _, fun z nz => ?_⟩
      have s7 := Same.new (o := .lst []) nz
      refine ⟨.list (ms.map PyData.int), .list [], .lst (s7.seq hu) (dp_ints _), .lst (.inl (.inl upd_same)) .nil, shaped_lst _, shaped_lst [], _, rfl, ?_⟩
      rw [eqv_nil, show (ms.map PyData.int).isEmpty = (moversR (doneF l cs)).isEmpty by rw [List.isEmpty_map]; exact perm_empty hms]
      cases hp : movesF cs l with
      | true =>
        have hp2 : (!(moversR (doneF l cs)).isEmpty) = true := hp
        rw [hp2]
        refine iteT ⟨_, rfl, ?_⟩
        refine k _ (.ref c) (((s4.trans s5).trans s6).trans s7) ?_
        have e : restF n cs = some l := find_at hf hl hp
        rw [e]
        exact ⟨c, rfl, ((((hc.keep s3).keep s5).keep s6).keep s7).seq⟩
      | false =>
        have hp2 : (!(moversR (doneF l cs)).isEmpty) = false := hp
        rw [hp2]
        exact iteF ⟨_, rfl, ((s3.trans s5).trans s6).trans s7, find_next hf hl hp⟩
    · obtain ⟨v, rfl, s3, hf⟩ := h
      rw [hA.len, List.take_length] at hf
      refine k H' .non ((s1.trans s2).trans s3) ?_
      have e : restF n cs = Option.none := hf
      rw [e]
      rfl
end
end Ov
/-! The law's draws. -/
namespace Ov
open PySem PySem.Spec PyProof.Rows L2 OvR
/-- all but the object at a is as it was -/
def But (a : Addr) (H H' : Hp) : Prop := ∀ b o, b ≠ a → H b = some o → H' b = some o
theorem But.refl (a : Addr) (H : Hp) : But a H H := fun _ _ _ h => h
theorem But.trans {a : Addr} {H H1 H2 : Hp} (x : But a H H1) (y : But a H1 H2) : But a H H2 := fun b o n h => y b o n (x b o n h)
theorem But.of {a : Addr} {H H' : Hp} (x : Same H H') : But a H H' := fun b o _ h => x b o h
theorem But.upd {a : Addr} {H : Hp} {o : HO} : But a H (upd H a o) := fun b u n h => by
  rw [upd_ne n]
  exact h
/-- a new object may change -/
theorem But.mut {a D : Addr} {H H' : Hp} {o : HO} (x : But a H H') (h : H D = Option.none) : But a H (L2.upd H' D o) := fun b u n q => by
  rw [upd_ne (ne_of_none q h)]
  exact x b u n q
theorem But.seqT {K : PySem.W.Frag} {a b : Addr} {H H' : Hp} {xs ys : List V} (x : But a H H') (ha : H a = some (.lst ys)) (h : SqT K H b xs) : SqT K H' b xs := by
  rcases h with (h | ⟨o, h⟩) | h
  · exact .inl (.inl (x _ _ (ne_of h ha (by intro z; cases z)) h))
  · exact .inl (.inr ⟨o, x _ _ (ne_of h ha (by intro z; cases z)) h⟩)
  · exact .inr h
/-- the state of the draws at a, over the script at s -/
def Draw (H : Hp) (a s : Addr) : Prop := ∃ c1 c2 c3 : Int, 0 ≤ c1 ∧ 0 ≤ c2 ∧ c2 < 2147483647 ∧ H a = some (.lst [.ref s, .int c1, .int c2, .int c3])
theorem But.script {K : PySem.W.Frag} {a s : Addr} {H H' : Hp} {ns : List Int} (x : But a H H') (ha : Draw H a s) (h : SqL K H s (vi ns)) : SqL K H' s (vi ns) := by
  obtain ⟨c1, c2, c3, _, _, _, e⟩ := ha
  rcases h with (h | ⟨o, h⟩) | h
  · refine .inl (.inl (x _ _ (ne_of h e fun z => ?_) h))
    have z2 : vi ns = [.ref s, .int c1, .int c2, .int c3] := HO.lst.inj z
    cases ns with
    | nil => cases z2
    | cons n r =>
      injection z2 with z3 _
      cases z3
  · exact .inl (.inr ⟨o, x _ _ (ne_of h e (by intro z; cases z)) h⟩)
  · exact .inr h
section
variable {a0 a1 a2 a3 : V}
theorem at0 : atI [a0, a1, a2, a3] 0 = some a0 := atI_nat (j := 0) rfl
theorem at1 : atI [a0, a1, a2, a3] 1 = some a1 := atI_nat (j := 1) rfl
theorem at2 : atI [a0, a1, a2, a3] 2 = some a2 := atI_nat (j := 2) rfl
theorem at3 : atI [a0, a1, a2, a3] 3 = some a3 := atI_nat (j := 3) rfl
theorem st1 : ixN [a0, a1, a2, a3].length 1 = some 1 := rfl
theorem st2 : ixN [a0, a1, a2, a3].length 2 = some 2 := rfl
theorem st3 : ixN [a0, a1, a2, a3].length 3 = some 3 := rfl
end
theorem many_div {m : Int} (h1 : 1 ≤ m) (h2 : m ≤ 8) (i : Int) : CDivW i m := by
  have e : m = 1 ∨ m = 2 ∨ m = 3 ∨ m = 4 ∨ m = 5 ∨ m = 6 ∨ m = 7 ∨ m = 8 := by omega
  rcases e with rfl | rfl | rfl | rfl | rfl | rfl | rfl | rfl <;> exact ⟨by decide, by decide⟩
section
variable {P : Program} {w : World} {K : PySem.W.Frag} {mg : Str → Option Value} {base : Heap}
abbrev sTaken : Stmt := topS 29
theorem scTaken : FnScope ["_law_row_here", "_law_many", "_law_found", "_law_cell"] ["_law_row_here", "_law_many"] (defScope sTaken) := ⟨rfl, rfl, rfl, by decide +kernel, rfl, by decide +kernel, by decide +kernel⟩
def spTaken (K : PySem.W.Frag) : Sp := fun vs H Q _ => ∃ (a s : Addr) (ns : List Int) (m : Int), vs = [.ref a, .int m] ∧ SqL K H s (vi ns) ∧ Draw H a s ∧ 1 ≤ m ∧ m ≤ 8 ∧ ∀ (H' : Hp) (v : Int), But a H H' → Draw H' a s → 0 ≤ v → v < m → Q (.int v) H'
theorem has_taken (D : Def K mg "_law_taken" sTaken ["_law_row_here", "_law_many"]) (T : Txt mg) : Has P w K mg base 1 "_law_taken" ["_law_row_here", "_law_many"] (spTaken K) := by
  refine D.has fun f fd F => F.ok scTaken (fun vs H Q E h => ?_) (fun cdv A outer s H vs Q E hr h => ?_)
  · obtain ⟨a, s, ns, m, rfl, _⟩ := h
    rfl
  · obtain ⟨a, s, ns, m, rfl, hS, hD, m1, m8, k⟩ := h
    refine ⟨_, pss_cons (ps_if (pt_cmpR op_gt (pe_ix ix_list (pv 0) pe_int (fun _ _ => rfl)) pe_int (nomark _))
        (pss_cons (ps_set (i := 2) scTaken.nd rfl (.inl rfl) (pe_op op_mod (pe_callTy call_int1 (by rfl) T.int (by decide +kernel) (pa_cons (pe_ix ix_list (pv 0) pe_int (fun _ _ => rfl)) pa_nil)) (pv 1)))
        (pss_cons (ps_asg (pe_op op_fdivW (pe_ix ix_list (pv 0) pe_int (fun _ _ => rfl)) (pv 1)) (pg_sub (pv 0) pe_int set_list))
        (pss_one (ps_ret (pv 2))))) pss_nil)
      (pss_cons (ps_asg (pe_op op_add (pe_ix ix_list (pv 0) pe_int (fun _ _ => rfl)) pe_int) (pg_sub (pv 0) pe_int set_list))
      (pss_cons (ps_if (pt_cmpR op_gt (pe_ix ix_list (pv 0) pe_int (fun _ _ => rfl)) (pe_callB call_len_seq (by rfl) T.len PySem.boot_len (pa_cons (pe_ix ix_list (pv 0) pe_int (fun _ _ => rfl)) pa_nil)) (nomark _))
        (pss_cons (ps_asg (pe_op op_mod (pe_callTy call_int1 (by rfl) T.int (by decide +kernel) (pa_cons (pe_op op_add (pe_op op_mul (pe_ix ix_list (pv 0) pe_int (fun _ _ => rfl)) pe_int) pe_int) pa_nil)) pe_int) (pg_sub (pv 0) pe_int set_list))
        (pss_one (ps_ret (pe_op op_mod (pe_callTy call_int1 (by rfl) T.int (by decide +kernel) (pa_cons (pe_op op_fdiv (pe_ix ix_list (pv 0) pe_int (fun _ _ => rfl)) pe_int) pa_nil)) (pv 1))))) pss_nil)
      (pss_cons (ps_set (i := 3) scTaken.nd rfl (.inl rfl) (pe_ix ix_list (pe_ix ix_list (pv 0) pe_int (fun _ _ => rfl)) (pe_op op_sub (pe_ix ix_list (pv 0) pe_int (fun _ _ => rfl)) pe_int) (fun _ _ => rfl)))
      (pss_cons (ps_asg (pe_op op_mod (pe_callTy call_int1 (by rfl) T.int (by decide +kernel) (pa_cons (pe_op op_add (pe_op op_add (pe_op op_mul (pe_ix ix_list (pv 0) pe_int (fun _ _ => rfl)) pe_int) (pv 3)) pe_int) pa_nil)) pe_int) (pg_sub (pv 0) pe_int set_list))
      (pss_cons (ps_if (pt_cmpR op_ge (pv 3) (pe_op op_pow pe_int pe_int) (nomark _)) (pss_one (ps_asg (pe_op op_fdivW (pv 3) (pv 1)) (pg_sub (pv 0) pe_int set_list))) pss_nil)
      (pss_one (ps_ret (pe_op op_mod (pe_callTy call_int1 (by rfl) T.int (by decide +kernel) (pa_cons (pv 3) pa_nil)) (pv 1))))))))), ?_⟩
    obtain ⟨c1, c2, c3, h1, h2, h3, hq⟩ := id hD
    have hl : SqL K H a [.ref s, .int c1, .int c2, .int c3] := .inl (.inl hq)
    have pos : (0 : Int) < m := by omega
    -- if row[3] > 0
    refine ⟨_, rfl, a, _, 3, .int c3, rfl, rfl, hl, at3, _, _, rfl, rfl, _, rfl, ?_⟩
    refine ite2 (fun _ => ?_) (fun _ => ?_)
    · refine ⟨_, rfl, a, _, 3, .int c3, rfl, rfl, hl, at3, .inl ⟨_, rfl, _, rfl, _, _, rfl, rfl, pos, ?_⟩⟩
      refine ⟨_, rfl, a, _, 3, .int c3, rfl, rfl, hl, at3, _, rfl, _, _, rfl, rfl, many_div m1 m8 _, _, rfl, a, _, 3, 3, rfl, rfl, hq, st3, ?_⟩
      refine ⟨_, rfl, k _ _ But.upd ⟨c1, c2, c3 / m, h1, h2, h3, upd_same⟩ (Int.emod_nonneg _ (by omega)) (Int.emod_lt_of_pos _ pos)⟩
    · -- row[1] = row[1] + 1
      refine ⟨_, rfl, a, _, 1, .int c1, rfl, rfl, hl, at1, _, _, rfl, rfl, _, rfl, a, _, 1, 1, rfl, rfl, hq, st1, ?_⟩
      have hb : But a H (upd H a (.lst [.ref s, .int (c1 + 1), .int c2, .int c3])) := But.upd
      have hq1 : (upd H a (.lst [.ref s, .int (c1 + 1), .int c2, .int c3])) a = some (.lst [.ref s, .int (c1 + 1), .int c2, .int c3]) := upd_same
      have hS1 := hb.script hD hS
      show tSeq _ _ _ _ (upd H a (.lst [.ref s, .int (c1 + 1), .int c2, .int c3]))
      generalize upd H a (.lst [.ref s, .int (c1 + 1), .int c2, .int c3]) = H1 at hb hq1 hS1 ⊢
      have hl1 : SqL K H1 a [.ref s, .int (c1 + 1), .int c2, .int c3] := .inl (.inl hq1)
      refine ⟨_, rfl, a, _, 1, .int (c1 + 1), rfl, rfl, hl1, at1, _, rfl, a, _, 0, .ref s, rfl, rfl, hl1, at0, s, vi ns, rfl, .inl hS1, _, _, rfl, rfl, _, rfl, ?_⟩
      refine ite2 (fun _ => ?_) (fun e => ?_)
      · refine ⟨_, rfl, a, _, 2, .int c2, rfl, rfl, hl1, at2, _, _, rfl, rfl, .inl ⟨by omega, by omega⟩, _, _, rfl, rfl, .inl ⟨_, rfl, _, _, rfl, rfl, (by show (0 : Int) < 2147483647; decide), ?_⟩⟩
        refine ⟨_, rfl, a, _, 2, 2, rfl, rfl, hq1, st2, ?_⟩
        refine ⟨_, rfl, a, _, 2, .int ((c2 * 48271 + 11) % 2147483647), rfl, rfl, .inl (.inl upd_same), at2, _, _, rfl, rfl, ⟨by decide, by decide⟩, .inl ⟨_, rfl, _, rfl, _, _, rfl, rfl, pos, ?_⟩⟩
        exact k _ _ (hb.trans But.upd) ⟨c1 + 1, (c2 * 48271 + 11) % 2147483647, c3, by omega, Int.emod_nonneg _ (by decide), Int.emod_lt_of_pos _ (by decide), upd_same⟩ (Int.emod_nonneg _ (by omega)) (Int.emod_lt_of_pos _ pos)
      · have e' : ¬ (((vi ns).length : Int) < c1 + 1) := fun z => e (decide_eq_true z)
        rw [List.length_map] at e'
        have hc : c1.toNat < ns.length := by omega
        have hat : atI (vi ns) (c1 + 1 - 1) = some (.int (ns.getD c1.toNat 0)) := by
          have q := at_vi hc
          rw [show ((c1.toNat : Nat) : Int) = c1 + 1 - 1 by omega] at q
          exact q
        generalize ns.getD c1.toNat 0 = cell at hat
        refine ⟨_, rfl, a, _, 0, .ref s, rfl, rfl, hl1, at0, _, rfl, a, _, 1, .int (c1 + 1), rfl, rfl, hl1, at1, _, _, rfl, rfl, s, vi ns, _, .int cell, rfl, rfl, hS1, hat, ?_⟩
        refine ⟨_, rfl, a, _, 2, .int c2, rfl, rfl, hl1, at2, _, _, rfl, rfl, .inl ⟨by omega, by omega⟩, _, rfl, _, _, rfl, rfl, _, _, rfl, rfl, .inl ⟨_, rfl, _, _, rfl, rfl, (by show (0 : Int) < 2147483647; decide), ?_⟩⟩
        refine ⟨_, rfl, a, _, 2, 2, rfl, rfl, hq1, st2, ?_⟩
        have hb2 : But a H (upd H1 a (.lst [.ref s, .int (c1 + 1), .int ((c2 * 48271 + cell + 11) % 2147483647), .int c3])) := hb.trans But.upd
        have hq2 : (upd H1 a (.lst [.ref s, .int (c1 + 1), .int ((c2 * 48271 + cell + 11) % 2147483647), .int c3])) a = some (.lst [.ref s, .int (c1 + 1), .int ((c2 * 48271 + cell + 11) % 2147483647), .int c3]) := upd_same
        show tSeq _ _ _ _ (upd H1 a (.lst [.ref s, .int (c1 + 1), .int ((c2 * 48271 + cell + 11) % 2147483647), .int c3]))
        generalize upd H1 a (.lst [.ref s, .int (c1 + 1), .int ((c2 * 48271 + cell + 11) % 2147483647), .int c3]) = H2 at hb2 hq2 ⊢
        have d1 : (0 : Int) ≤ (c2 * 48271 + cell + 11) % 2147483647 := Int.emod_nonneg _ (by decide)
        have d2 : (c2 * 48271 + cell + 11) % 2147483647 < 2147483647 := Int.emod_lt_of_pos _ (by decide)
        generalize (c2 * 48271 + cell + 11) % 2147483647 = z at hq2 d1 d2
        have fin : ∀ H' : Hp, But a H H' → Draw H' a s → Q (.int (cell % m)) H' := fun H' b d => k H' _ b d (Int.emod_nonneg _ (by omega)) (Int.emod_lt_of_pos _ pos)
        refine ⟨_, rfl, _, _, rfl, rfl, ⟨by decide, by decide, by decide⟩, _, _, rfl, rfl, _, rfl, ?_⟩
        refine ite2 (fun _ => ?_) (fun _ => ?_)
        · refine ⟨_, rfl, _, rfl, _, _, rfl, rfl, many_div m1 m8 _, _, rfl, a, _, 3, 3, rfl, rfl, hq2, st3, ?_⟩
          exact ⟨_, rfl, .inl ⟨_, rfl, _, rfl, _, _, rfl, rfl, pos, fin _ (hb2.trans But.upd) ⟨c1 + 1, z, cell / m, by omega, d1, d2, upd_same⟩⟩⟩
        · exact ⟨_, rfl, .inl ⟨_, rfl, _, rfl, _, _, rfl, rfl, pos, fin _ hb2 ⟨c1 + 1, z, c3, by omega, d1, d2, hq2⟩⟩⟩
end
end Ov
/-! The law's rows, calls, lines. -/
namespace Ov
open PySem PySem.Spec PyProof.Rows L2 OvR
/-- len of a list or tuple, as the rule has it -/
abbrev rLen (K : PySem.W.Frag) : List V → Hp → VK → Prop := fun xs H Q => ∃ p ys, xs = [.ref p] ∧ (SqL K H p ys ∨ SqT K H p ys) ∧ Q (.int ys.length) H
theorem vi_app (a b : List Int) : vi (a ++ b) = vi a ++ vi b := List.map_append
theorem vi_nil {a : List Int} (h : vi a = []) : a = [] := List.map_eq_nil_iff.mp h
/-- t + u where the outcome is to be a told tuple -/
theorem cat_F {K : PySem.W.Frag} {H : Hp} {a b : Addr} {xs ys : List V} {Q : VK} (ha : SqT K H a xs) (hb : SqT K H b ys) (hz : xs.length + ys.length ≤ 1000) (f1 : xs ≠ [] → ys = [] → FT H a xs) (f2 : xs = [] → FT H b ys)
    (q : ∀ (H' : Hp) (r : Addr), Same H H' → FT H' r (xs ++ ys) → Q (.ref r) H') : rCatF K (.ref a) (.ref b) H Q := by
  refine ⟨a, b, xs, ys, rfl, rfl, ha, hb, sz5 hz, fun e => ?_, fun n e => ?_, fun _ _ p o np nd => q _ p (Same.new np) (FT.made nd)⟩
  · refine q H b (Same.refl H) ?_
    have f := f2 e
    rw [e]
    exact f
  · refine q H a (Same.refl H) ?_
    have f := f1 n e
    rw [e, List.append_nil]
    exact f
/-- the places of the taller ones, as ints -/
def tallI (ns : List Int) (p : Int) (k : Nat) : List Int := ((List.range k).filter fun j => decide (p < ns.getD j 0)).map fun j : Nat => ((j : Nat) : Int)
theorem tallI_succ (ns : List Int) (p : Int) (k : Nat) : tallI ns p (k + 1) = tallI ns p k ++ (if p < ns.getD k 0 then [((k : Nat) : Int)] else []) := by
  unfold tallI
  rw [List.range_succ, List.filter_append, List.map_append, List.filter_cons]
  by_cases h : p < ns.getD k 0
  · rw [if_pos h, if_pos (decide_eq_true h)]
    rfl
  · rw [if_neg h, if_neg (by rw [decide_eq_false h]; decide)]
    rfl
theorem tallI_len (ns : List Int) (p : Int) (k : Nat) : (tallI ns p k).length ≤ k := by
  unfold tallI
  rw [List.length_map]
  have h := List.length_filter_le (fun j => decide (p < ns.getD j 0)) (List.range k)
  rw [List.length_range] at h
  exact h
theorem new_le (ns : List Int) (p : Int) : newL ns p ≤ ns.idxOf p := by
  unfold newL
  cases h : (tallL ns p (ns.idxOf p)).getLast? with
  | none => exact Nat.zero_le _
  | some k =>
    have hm := List.mem_of_getLast? h
    unfold tallL at hm
    have h2 := List.mem_range.mp (List.mem_filter.mp hm).1
    show k + 1 ≤ _
    omega
theorem tall_cases (ns : List Int) (p : Int) : (tallI ns p (ns.idxOf p) = [] ∧ newL ns p = 0) ∨ ∃ (i : List Int) (k : Nat), tallI ns p (ns.idxOf p) = i ++ [((k : Nat) : Int)] ∧ newL ns p = k + 1 := by
  have e : tallI ns p (ns.idxOf p) = (tallL ns p (ns.idxOf p)).map fun j : Nat => ((j : Nat) : Int) := rfl
  rw [e]
  unfold newL
  rcases List.eq_nil_or_concat (tallL ns p (ns.idxOf p)) with h | ⟨i, k, h⟩
  · rw [h]
    exact .inl ⟨rfl, rfl⟩
  · rw [List.concat_eq_append] at h
    refine .inr ⟨i.map (fun j : Nat => ((j : Nat) : Int)), k, ?_, ?_⟩
    · rw [h, List.map_append]
      rfl
    · rw [h, List.getLast?_append]
      rfl
section
variable {P : Program} {w : World} {K : PySem.W.Frag} {mg : Str → Option Value} {base : Heap}
/-! ### _law_row -/
abbrev sLRow : Stmt := topS 31
theorem scLRow : FnScope ["_law_row_here", "_law_line", "_law_many", "_law_turn"] ["_law_row_here", "_law_line", "_law_many"] (defScope sLRow) := ⟨rfl, rfl, rfl, by decide +kernel, rfl, by decide +kernel, by decide +kernel⟩
def spLRow (K : PySem.W.Frag) : Sp := fun vs H Q _ => ∃ (a s b : Addr) (ns : List Int) (n : Nat) (ls : List V), vs = [.ref a, .ref b, .int 7] ∧ SqL K H s (vi ns) ∧ Draw H a s ∧ SqT K H b ls ∧ ls.length = n ∧ Sz n ∧
  ∀ (H' : Hp) (r : Addr) (cs : List Int), But a H H' → Draw H' a s → SqT K H' r (vi cs) → Row n cs → cs.length ≤ 7 → Q (.ref r) H'
theorem has_lrow (D : Def K mg "_law_row" sLRow ["_law_row_here", "_law_line", "_law_many"]) (T : Txt mg) (G : Has P w K mg base 1 "_law_taken" ["_law_row_here", "_law_many"] (spTaken K)) : Has P w K mg base 2 "_law_row" ["_law_row_here", "_law_line", "_law_many"] (spLRow K) := by
  refine D.has fun f fd F => F.ok scLRow (fun vs H Q E h => ?_) (fun cdv A outer s H vs Q E hr h => ?_)
  · obtain ⟨a, s, b, ns, n, ls, rfl, _⟩ := h
    rfl
  · obtain ⟨a, s, b, ns, n, ls, rfl, hS, hD, hb, hn, sz, k⟩ := h
    have n1 := sz.1
    have n2 := sz.2
    refine ⟨_, pss_one (ps_ret (pe_callTy call_tuple_of (by rfl) T.tuple (by decide +kernel) (pa_cons (pe_lc (own := [("_law_turn", 3)]) (g := gName 3) (tt := tYes) (te := tCall (spTaken K) [] E0 (tCons (tVar 0) (tCons (tCB (rLen K) (tCons (tVar 1) tNil)) tNil))) rfl scLRow.nd
      (pi_range1 (by rfl) T.range (pa_cons (pe_has G hr (by rfl) (pa_cons (pv 0) (pa_cons (pe_op op_add (pv 2) pe_int) pa_nil))) pa_nil)) (blkOk_by (N := ["_law_row_here", "_law_line", "_law_many", "_law_turn"]) (sc := defScope sLRow) (by decide +kernel))
      (fun _ _ _ _ _ => pg_name (i := 3) scLRow.nd rfl (.inl rfl)) (fun _ _ _ _ _ => pts_nil)
      (fun _ _ _ _ _ => pe_has G hr (by rfl) (pa_cons (pv 0) (pa_cons (pe_callB call_len_seq (by rfl) T.len PySem.boot_len (pa_cons (pv 1) pa_nil)) pa_nil)))) pa_nil))), ?_⟩
    refine ⟨_, rfl, _, rfl, _, _, rfl, rfl, a, s, ns, 8, rfl, hS, hD, by omega, by omega, fun H1 v b1 d1 v0 v8 => ⟨v, rfl, by omega, by omega, fun D2 hD2 => ?_⟩⟩
    obtain ⟨_, _, _, _, _, _, hq⟩ := id d1
    obtain ⟨_, _, _, _, _, _, hq0⟩ := id hD
    have naD : a ≠ D2 := ne_of_none hq hD2
    refine turns_range (lo := 0) (n := v.toNat) (fun i H' => ∃ cs : List Int, But a H1 H' ∧ Draw H' a s ∧ H' D2 = some (.lst (vi cs)) ∧ Row n cs ∧ cs.length = i)
      ⟨[], But.of (Same.new hD2), ?_, upd_same, (fun c z => absurd z List.not_mem_nil), rfl⟩ (fun i H' hi h => ?_) (fun H' h => ?_)
    · obtain ⟨c1, c2, c3, x1, x2, x3, e⟩ := d1
      exact ⟨c1, c2, c3, x1, x2, x3, Same.new hD2 _ _ e⟩
    · obtain ⟨cs, b2, d2, hd, hrow, hlen⟩ := h
      have b3 := b1.trans b2
      have hb3 : SqT K H' b ls := b3.seqT hq0 hb
      refine ⟨rfl, _, rfl, _, rfl, b, ls, rfl, .inr hb3, a, s, ns, _, rfl, b3.script hD hS, d2, by omega, by omega, fun H5 x b5 d5 x0 xm => ?_⟩
      have hd5 : H5 D2 = some (.lst (vi cs)) := b5 _ _ (Ne.symm naD) hd
      refine ⟨vi cs, hd5, ?_, cs ++ [x], But.mut (b2.trans b5) hD2, ?_, ?_, ?_, ?_⟩
      · rw [List.length_map]
        exact small1000 (by omega)
      · obtain ⟨c1, c2, c3, x1, x2, x3, e⟩ := d5
        exact ⟨c1, c2, c3, x1, x2, x3, by rw [upd_ne naD]; exact e⟩
      · rw [upd_same, vi_app]
        rfl
      · refine row_app hrow fun c hc => ?_
        rw [List.mem_singleton.mp hc]
        exact ⟨x0, by omega⟩
      · rw [List.length_append, List.length_singleton, hlen]
    · obtain ⟨cs, b2, d2, hd, hrow, hlen⟩ := h
      refine ⟨D2, vi cs, rfl, .inl ⟨.inl (.inl hd), fun r nr => ?_⟩⟩
      have s3 := Same.new (o := .tup (vi cs)) nr
      refine k _ r cs ((b1.trans b2).trans (But.of s3)) ?_ (.inl (.inl upd_same)) hrow (by omega)
      obtain ⟨c1, c2, c3, x1, x2, x3, e⟩ := d2
      exact ⟨c1, c2, c3, x1, x2, x3, s3 _ _ e⟩

/-! ### _law_call -/
abbrev sLCall : Stmt := topS 32
theorem scLCall : FnScope ["_law_line", "_law_person", "_law_old", "_law_tall", "_law_new", "_law_place"] ["_law_line", "_law_person"] (defScope sLCall) := ⟨rfl, rfl, rfl, by decide +kernel, rfl, by decide +kernel, by decide +kernel⟩
def spLCall : Sp := fun vs H Q _ => ∃ (l : Addr) (ns : List Int) (p : Int), vs = [.ref l, .int p] ∧ FT H l (vi ns) ∧ p ∈ ns ∧ ns.length ≤ 100 ∧ ∀ (H' : Hp) (r : Addr), Same H H' → FT H' r (vi (callL ns p)) → Q (.ref r) H'
theorem has_lcall (D : Def K mg "_law_call" sLCall ["_law_line", "_law_person"]) (T : Txt mg) : Has P w K mg base 1 "_law_call" ["_law_line", "_law_person"] spLCall := by
  refine D.has fun f fd F => F.ok scLCall (fun vs H Q E h => ?_) (fun cdv A outer s H vs Q E hr h => ?_)
  · obtain ⟨l, ns, p, rfl, _⟩ := h
    rfl
  · obtain ⟨l, ns, p, rfl, hl, hp, hz, k⟩ := h
    have hi := idx_lt hp
    have hg := new_le ns p
    refine ⟨_, pss_cons (ps_set (i := 2) scLCall.nd rfl (.inl rfl) (pe_tidx (pv 0) (pv 1)))
      (pss_cons (ps_setLc (i := 3) (own := [("_law_place", 5)]) (g := gName 5) (tt := tTest (tOp (rI0 fun i j => .bl (decide (j < i))) (tOp (rIxT K) (tVar 0) (tVar 5)) (tVar 1))) (te := tVar 5) rfl scLCall.nd rfl rfl (sw_true rfl rfl rfl (by decide +kernel))
        (pi_range1 (by rfl) T.range (pa_cons (pv 2) pa_nil)) (blkOk_by (N := ["_law_line", "_law_person", "_law_old", "_law_tall", "_law_new", "_law_place"]) (sc := defScope sLCall) (by decide +kernel)) (fun _ _ _ _ _ => pg_name (i := 5) scLCall.nd rfl (.inl rfl))
        (fun _ _ _ _ _ => pts_one (pt_cmpR op_gt (pe_ix ix_tup (pv 0) (pv 5) (fun _ _ => rfl)) (pv 1) (nomark _))) (fun _ _ _ _ _ => pv 5))
      (pss_cons (ps_set (i := 4) scLCall.nd rfl (.inl rfl) (pe_ifExp (pt_cmpR (op_neD hr.units) (pv 3) (pe_lst pa_nil) (by rfl)) (pe_op op_add (pe_ix ix_list (pv 3) (pe_un un_neg pe_int) (fun _ _ => rfl)) pe_int) pe_int))
      (pss_one (ps_ret (pe_op op_catF (pe_op op_catF (pe_op op_catF (pe_slice sl_tupA (pv 0) po_none (po_some (pv 4))) (pe_tupF (pa_cons (pv 1) pa_nil))) (pe_slice sl_tupA (pv 0) (po_some (pv 4)) (po_some (pv 2))))
        (pe_slice sl_tupA (pv 0) (po_some (pe_op op_add (pv 2) pe_int)) po_none)))))), ?_⟩
    refine ⟨_, rfl, l, ns, rfl, hl, _, rfl, p, rfl, hl, hp, ?_⟩
    refine ⟨_, rfl, _, rfl, by omega, by omega, fun D2 hD2 => ?_⟩
    rw [Int.toNat_natCast]
    refine turns_range (lo := 0) (n := ns.idxOf p) (fun i H' => Same H H' ∧ H' D2 = some (.lst (vi (tallI ns p i)))) ⟨Same.new hD2, upd_same⟩ (fun i H' hi2 h => ?_) (fun H' h => ?_)
    · obtain ⟨s1, hq⟩ := h
      rw [show (0 : Int) + ((i : Nat) : Int) = ((i : Nat) : Int) from Int.zero_add _]
      refine ⟨rfl, _, rfl, _, rfl, l, vi ns, _, .int (ns.getD i 0), rfl, rfl, (hl.keep s1).seq, at_vi (by omega), _, rfl, _, _, rfl, rfl, _, rfl, ?_⟩
      by_cases hc : p < ns.getD i 0
      · rw [decide_eq_true hc]
        refine iteT ⟨_, rfl, vi (tallI ns p i), hq, ?_, Same.mut s1 hD2, ?_⟩
        · rw [List.length_map]
          have := tallI_len ns p i
          exact small1000 (by omega)
        · rw [upd_same, tallI_succ, if_pos hc, vi_app]
          rfl
      · rw [decide_eq_false hc]
        refine iteF ⟨s1, ?_⟩
        rw [tallI_succ, if_neg hc, List.append_nil]
        exact hq
    · obtain ⟨s1, hq⟩ := h
      -- new = tall[-1] + 1 if tall != [] else 0
      have go : ∀ H2 : Hp, Same H H2 → tRet (tOp (rCatF K) (tOp (rCatF K) (tOp (rCatF K) (tSl (rSlA K) (tVar 0) tNoPart (tPart (tVar 4))) (tTupF (tCons (tVar 1) tNil))) (tSl (rSlA K) (tVar 0) (tPart (tVar 4)) (tPart (tVar 2))))
          (tSl (rSlA K) (tVar 0) (tPart (tOp (rI0 fun i j => .int (i + j)) (tVar 2) (tC (.int 1)))) tNoPart)) { nx := fun _ H' => Q .non H', rt := Q } [some (.ref l), some (.int p), some (.int ((ns.idxOf p : Nat) : Int)), some (.ref D2), some (.int ((newL ns p : Nat) : Int)), Option.none] H2 := by
        intro H2 s2
        have h2 : FT H2 l (vi ns) := hl.keep s2
        refine ⟨_, rfl, no_part ?_⟩
        refine ⟨_, rfl, _, rfl, cut_any h2.seq fun H3 a3 s3 h3 => ?_⟩
        refine ⟨_, rfl, sz5 (show 1 ≤ 1000 by decide), fun q o nq nd => ?_⟩
        have s4 := Same.new (o := .frz o (.tup [.int p])) nq
        rw [cut_to (by omega)] at h3
        have hl1 : (vi (ns.take (newL ns p))).length ≤ 100 := by
          rw [List.length_map, List.length_take]
          omega
        refine cat_F (Same.seqT s4 h3) (.inl (.inr ⟨o, upd_same⟩)) (by show _ + 1 ≤ _; omega) (fun _ e => nomatch e) (fun _ => FT.made nd) fun H5 a5 s5 f5 => ?_
        have f5l : FT H5 l (vi ns) := ((h2.keep s3).keep s4).keep s5
        refine ⟨_, rfl, _, rfl, _, rfl, _, rfl, _, rfl, cut_any f5l.seq fun H6 a6 s6 h6 => ?_⟩
        rw [cut_in (by omega) (by omega)] at h6
        have hl2 : (vi ((ns.drop (newL ns p)).take (ns.idxOf p - newL ns p))).length ≤ 100 := by
          rw [List.length_map, List.length_take, List.length_drop]
          omega
        refine cat_F (f5.keep s6).seq h6 (by rw [List.length_append]; show _ + 1 + _ ≤ _; omega) (fun _ _ => f5.keep s6) (fun e => absurd e (by simp)) fun H7 a7 s7 f7 => ?_
        have f7l : FT H7 l (vi ns) := (f5l.keep s6).keep s7
        refine ⟨_, rfl, _, rfl, _, _, rfl, rfl, _, rfl, ?_⟩
        refine no_part ?_
        refine cut_any f7l.seq fun H8 a8 s8 h8 => ?_
        rw [show ((ns.idxOf p : Nat) : Int) + 1 = ((ns.idxOf p + 1 : Nat) : Int) by omega, cut_from (by omega)] at h8
        have hl3 : (vi (ns.drop (ns.idxOf p + 1))).length ≤ 100 := by
          rw [List.length_map, List.length_drop]
          omega
        refine cat_F (f7.keep s8).seq h8 (by rw [List.length_append, List.length_append]; show _ + 1 + _ + _ ≤ _; omega) (fun _ _ => f7.keep s8) (fun e => absurd e (by simp)) fun H9 a9 s9 f9 => ?_
        refine k H9 a9 (((((((s2.trans s3).trans s4).trans s5).trans s6).trans s7).trans s8).trans s9) ?_
        have e : vi (callL ns p) = vi (ns.take (newL ns p)) ++ [V.int p] ++ vi ((ns.drop (newL ns p)).take (ns.idxOf p - newL ns p)) ++ vi (ns.drop (ns.idxOf p + 1)) := by
          unfold callL
          rw [vi_app, vi_app, vi_app]
          rfl
        rw [e]
        exact f9
      refine ⟨_, rfl, Nat.zero_le _, fun z nz => ?_⟩
      have s2 := Same.new (o := .lst []) nz
      have hq2 := s2 _ _ hq
      refine ⟨.list ((tallI ns p (ns.idxOf p)).map PyData.int), .list [], .lst (.inl (.inl hq2)) (dp_ints _), .lst (.inl (.inl upd_same)) .nil, shaped_lst _, shaped_lst [], _, rfl, ?_⟩
      rw [eqv_nil, List.isEmpty_map]
      rcases tall_cases ns p with ⟨e1, e2⟩ | ⟨i, j, e1, e2⟩
      · rw [e1]
        refine iteF ?_
        have g := go _ (s1.trans s2)
        rw [e2] at g
        exact g
      · rw [e1, show (!(i ++ [((j : Nat) : Int)]).isEmpty) = true by simp]
        rw [e1, vi_app] at hq2
        refine iteT ⟨_, rfl, 1, rfl, D2, vi i ++ [.int ((j : Nat) : Int)], -1, .int ((j : Nat) : Int), rfl, rfl, .inl (.inl hq2), atI_last _ _, _, _, rfl, rfl, ?_⟩
        have g := go _ (s1.trans s2)
        rw [e2, show ((j + 1 : Nat) : Int) = ((j : Nat) : Int) + 1 by omega] at g
        exact g

/-! ### _law_done -/
abbrev sLDone : Stmt := topS 33
theorem scLDone : FnScope ["_law_line", "_law_calls", "_law_person"] ["_law_line", "_law_calls"] (defScope sLDone) := ⟨rfl, rfl, rfl, by decide +kernel, rfl, by decide +kernel, by decide +kernel⟩
def spLDone (K : PySem.W.Frag) : Sp := fun vs H Q _ => ∃ (l c : Addr) (n : Nat) (ns cs : List Int), vs = [.ref l, .ref c] ∧ FT H l (vi ns) ∧ Ln n ns ∧ SqT K H c (vi cs) ∧ Row n cs ∧ ∀ (H' : Hp) (r : Addr), Same H H' → FT H' r (vi (doneL ns cs)) → Q (.ref r) H'
theorem has_ldone (D : Def K mg "_law_done" sLDone ["_law_line", "_law_calls"]) (G : Has P w K mg base 1 "_law_call" ["_law_line", "_law_person"] spLCall) : Has P w K mg base 2 "_law_done" ["_law_line", "_law_calls"] (spLDone K) := by
  refine D.has fun f fd F => F.ok scLDone (fun vs H Q E h => ?_) (fun cdv A outer s H vs Q E hr h => ?_)
  · obtain ⟨l, c, n, ns, cs, rfl, _⟩ := h
    rfl
  · obtain ⟨l, c, n, ns, cs, rfl, hl, hln, hc, hrow, k⟩ := h
    refine ⟨_, pss_cons (ps_for PassesOwn.never rfl (pi_tup (pv 1)) (pg_name (i := 2) scLDone.nd rfl (.inl rfl)) (pss_one (ps_set (i := 0) scLDone.nd rfl (.inl rfl) (pe_has G hr (by rfl) (pa_cons (pv 0) (pa_cons (pv 2) pa_nil))))))
      (pss_one (ps_ret (pv 0))), ?_⟩
    refine ⟨_, rfl, c, rfl, ⟨_, hc⟩, ?_⟩
    refine for_tup (K := K) (a := c) (xs := vi cs) (fun i σ H' => ∃ (t : Addr) (v : Option V), σ = [some (.ref t), some (.ref c), v] ∧ Same H H' ∧ FT H' t (vi (doneL ns (cs.take i)))) ⟨l, Option.none, rfl, Same.refl H, hl⟩ (fun i σ H' _ h => ?_) (fun i x σ H' hx h => ?_) (fun σ H' h => ?_)
    · obtain ⟨t, v, _, s1, _⟩ := h
      exact Same.seqT s1 hc
    · obtain ⟨t, v, rfl, s1, ht⟩ := h
      obtain ⟨c0, hg, rfl⟩ := vi_get hx
      have hrt : Row n (cs.take i) := fun d hd => hrow d (List.mem_of_mem_take hd)
      have hL := done_ln hln hrt
      rw [done_eq hln hrt] at hL
      have hp := hrow c0 (List.mem_of_getElem? hg)
      have n4 := hln.1.2
      refine ⟨_, rfl, _, rfl, t, _, c0, rfl, ht, ln_mem hL hp, by rw [ln_len hL]; omega, fun H2 r s2 hr2 => ?_⟩
      refine ⟨r, _, rfl, s1.trans s2, ?_⟩
      rw [take_doneL ns cs i c0 hg]
      exact hr2
    · obtain ⟨t, v, rfl, s1, ht⟩ := h
      rw [List.length_map, List.take_length] at ht
      exact ⟨_, rfl, k H' t s1 ht⟩
end
end Ov
/-! The law's lines, wrong pairs, likeness. -/
namespace Ov
open PySem PySem.Spec PyProof.Rows L2 OvR
/-- a pair of ints, tracked -/
def PairAt (H : Hp) (x : V) : Prop := ∃ (t : Addr) (i j : Int), x = .ref t ∧ H t = some (.tup [.int i, .int j])
theorem PairAt.keep {H H' : Hp} {x : V} (e : Same H H') (h : PairAt H x) : PairAt H' x := by
  obtain ⟨t, i, j, h1, h2⟩ := h
  exact ⟨t, i, j, h1, e _ _ h2⟩
theorem pairUpd {H : Hp} {x : V} {D : Addr} {acc acc' : List V} (h : PairAt H x) (hD : H D = some (.lst acc)) : PairAt (upd H D (.lst acc')) x := by
  obtain ⟨t, i, j, h1, h2⟩ := h
  exact ⟨t, i, j, h1, by rw [upd_ne (ne_of h2 hD (by intro z; cases z))]; exact h2⟩
theorem pairs_dp {K : PySem.W.Frag} {H : Hp} : ∀ {ys : List V}, (∀ y ∈ ys, PairAt H y) → ∃ ds, DpAll K H ys ds ∧ PyData.canLayAll0 ds = true ∧ PyData.depthAll ds ≤ 1 ∧ ds.isEmpty = ys.isEmpty
  | [], _ => ⟨[], .nil, by simp [PyData.canLayAll0], by simp [PyData.depthAll], rfl⟩
  | y :: ys, h => by
    obtain ⟨ds, h1, h2, h3, _⟩ := pairs_dp (ys := ys) fun z hz => h z (List.mem_cons_of_mem _ hz)
    obtain ⟨t, i, j, rfl, ht⟩ := h y List.mem_cons_self
    refine ⟨.tuple [.int i, .int j] :: ds, .cons (.tup (.inl (.inl ht)) (dp_ints [i, j])) h1, ?_, ?_, rfl⟩
    · simp only [PyData.canLayAll0, PyData.canLay0, h2, Bool.and_self]
    · simp only [PyData.depthAll, PyData.depth, Nat.max_self, Nat.zero_add]
      exact Nat.max_le.mpr ⟨Nat.le_refl 1, h3⟩
theorem shaped_pairs {ds : List PyData} (h1 : PyData.canLayAll0 ds = true) (h2 : PyData.depthAll ds ≤ 1) : SeqAt.shaped (.list ds) = true := by
  unfold SeqAt.shaped
  simp only [PyData.canLay0, h1, PyData.depth, Bool.true_and]
  exact decide_eq_true (by omega)
/-- how many of the first ones are taller -/
def cntK (x : Int) (r : List Int) (j : Nat) : Nat := ((r.take j).filter fun o => decide (x < o)).length
theorem cnt_succ {x : Int} {r : List Int} {j : Nat} {o : Int} (h : r[j]? = some o) : cntK x r (j + 1) = cntK x r j + (if x < o then 1 else 0) := by
  unfold cntK
  rw [List.take_add_one, h, List.filter_append, List.length_append]
  refine congrArg _ ?_
  show (List.filter _ [o]).length = _
  rw [List.filter_cons]
  by_cases hc : x < o
  · rw [if_pos (decide_eq_true hc), if_pos hc]
    rfl
  · rw [if_neg (by rw [decide_eq_false hc]; decide), if_neg hc]
    rfl
theorem cnt_le (x : Int) (r : List Int) (j : Nat) : cntK x r j ≤ r.length := by
  unfold cntK
  have h1 := List.length_filter_le (fun o => decide (x < o)) (r.take j)
  rw [List.length_take] at h1
  omega
theorem wrong_len (ns : List Int) (k : Nat) : (wrongK ns (k + 1)).length = (wrongK ns k).length + cntK (ns.getD k 0) (ns.drop (k + 1)) (ns.drop (k + 1)).length := by
  show (wrongK ns k ++ wrongAt ns k).length = _
  unfold wrongAt cntK
  rw [List.length_append, List.length_map, List.take_length]
section
variable {P : Program} {w : World} {K : PySem.W.Frag} {mg : Str → Option Value} {base : Heap}
/-! ### _law_lines -/
abbrev sLLines : Stmt := topS 35
theorem scLLines : FnScope ["_law_size", "_law_found", "_law_turn", "_law_longer", "_law_part", "_law_person"] ["_law_size"] (defScope sLLines) := ⟨rfl, rfl, rfl, by decide +kernel, rfl, by decide +kernel, by decide +kernel⟩
theorem has_llines (D : Def K mg "_law_lines" sLLines ["_law_size"]) (T : Txt mg) : Has P w K mg base 1 "_law_lines" ["_law_size"] (spLines K) := by
  refine D.has fun f fd F => F.ok scLLines (fun vs H Q E h => ?_) (fun cdv A outer s H vs Q E hr h => ?_)
  · obtain ⟨n, rfl, _⟩ := h
    rfl
  · obtain ⟨n, rfl, hn, k⟩ := h
    have n1 := hn.1
    have n2 := hn.2
    refine ⟨_, pss_cons (ps_set (i := 1) scLLines.nd rfl (.inl rfl) (pe_lst (pa_cons (pe_tupF pa_nil) pa_nil)))
      (pss_cons (ps_for PassesOwn.never rfl (pi_range1 (by rfl) T.range (pa_cons (pv 0) pa_nil)) (pg_name (i := 2) scLLines.nd rfl (.inl rfl))
        (pss_cons (ps_set (i := 3) scLLines.nd rfl (.inl rfl) (pe_lst pa_nil))
        (pss_cons (ps_for PassesOwn.never rfl (pi_list (pv 1)) (pg_name (i := 4) scLLines.nd rfl (.inr rfl))
          (pss_one (ps_set (i := 3) scLLines.nd rfl (.inl rfl) (pe_op op_cat (pv 3) (pe_lc (own := [("_law_person", 5)]) (g := gName 5) (tt := tTest (tOp (rIn K true) (tVar 5) (tVar 4))) (te := tOp (rCatF K) (tVar 4) (tTupF (tCons (tVar 5) tNil))) rfl scLLines.nd
            (pi_range1 (by rfl) T.range (pa_cons (pv 0) pa_nil)) (blkOk_by (N := ["_law_size", "_law_found", "_law_turn", "_law_longer", "_law_part", "_law_person"]) (sc := defScope sLLines) (by decide +kernel)) (fun _ _ _ _ _ => pg_name (i := 5) scLLines.nd rfl (.inl rfl))
            (fun _ _ _ _ _ => pts_one (pt_cmpR op_notIn_seq (pv 5) (pv 4) (by rfl))) (fun _ _ _ _ _ => pe_op op_catF (pv 4) (pe_tupF (pa_cons (pv 5) pa_nil))))))))
        (pss_one (ps_set (i := 1) scLLines.nd rfl (.inl rfl) (pv 3))))))
      (pss_one (ps_ret (pv 1)))), ?_⟩
    refine ⟨Nat.zero_le _, fun t o nt nd => ⟨sz5 (show 1 ≤ 1000 by decide), fun q nq => ?_⟩⟩
    have s1 : Same H (upd H t (.frz o (.tup []))) := Same.new nt
    have f1 : FT (upd H t (.frz o (.tup []))) t (vi []) := FT.made nd
    have e1 : Same H (upd (upd H t (.frz o (.tup []))) q (.lst [.ref t])) := s1.trans (Same.new nq)
    have f2 : FT (upd (upd H t (.frz o (.tup []))) q (.lst [.ref t])) t (vi []) := f1.keep (Same.new nq)
    refine ⟨_, rfl, (n : Int), rfl, by omega, by omega, ?_⟩
    refine for_range (lo := 0) (n := ((n : Nat) : Int).toNat) (fun i σ H' => ∃ (q : Addr) (v v3 v4 : Option V) (xs : List V), σ = [some (.int (n : Int)), some (.ref q), v, v3, v4, Option.none] ∧ Same H H' ∧ H' q = some (.lst xs) ∧ AllF H' xs (linesK n i))
      ⟨q, Option.none, Option.none, Option.none, [.ref t], rfl, e1, upd_same, .cons ⟨t, rfl, f2⟩ .nil⟩ (fun i σ H' hi h => ?_) (fun σ H' h => ?_)
    · obtain ⟨q, v, v3, v4, xs, rfl, s2, hq, hA⟩ := h
      have hin : i < n := by omega
      obtain ⟨l1, l2⟩ := len_parts hn (Nat.le_of_lt hin)
      have hlen : xs.length ≤ 24 := by rw [hA.len]; exact l1
      -- longer = []
      refine ⟨Nat.zero_le _, fun g ng => ?_⟩
      have s3 := Same.new (o := .lst []) ng
      have hq3 := s3 _ _ hq
      have hA3 := hA.keep s3
      have e3 : (upd H' g (.lst [])) g = some (.lst []) := upd_same
      have s23 := s2.trans s3
      show tSeq _ _ _ _ (upd H' g (.lst []))
      generalize upd H' g (.lst []) = H3 at s3 hq3 hA3 e3 s23 ⊢
      refine ⟨_, rfl, q, rfl, ⟨xs, .inl (.inl hq3)⟩, ?_⟩
      refine for_list (K := K) (a := q) (xs := xs) (fun a σ H2 => ∃ (g : Addr) (v4 : Option V) (acc : List V), σ = [some (.int (n : Int)), some (.ref q), some (.int (0 + (i : Int))), some (.ref g), v4, Option.none] ∧ Same H3 H2 ∧ H2 g = some (.lst acc) ∧ AllF H2 acc (((linesK n i).take a).flatMap (extF n)) ∧ acc.length ≤ 4 * a)
        ⟨g, v4, [], rfl, Same.refl H3, e3, .nil, Nat.zero_le _⟩ (fun a σ H2 _ h => ?_) (fun a x σ H2 hx h => ?_) (fun σ H2 h => ?_)
      · obtain ⟨g, v4, acc, _, s4, _⟩ := h
        exact .inl (.inl (s4 _ _ hq3))
      · obtain ⟨g, v4, acc, rfl, s4, hg, hL, hz⟩ := h
        have ha : a < 24 := by
          have z := (List.getElem?_eq_some_iff.mp hx).1
          omega
        obtain ⟨row, hrow, b, rfl, hb⟩ := pair_get hA3 hx
        have hrl : row.length = i := l2 row (List.mem_of_getElem? hrow)
        have hb2 : FT H2 b (vi row) := hb.keep s4
        refine ⟨_, rfl, _, rfl, (n : Int), rfl, by omega, by omega, fun D2 hD2 => ?_⟩
        have ngD : g ≠ D2 := ne_of_none hg hD2
        refine turns_range (lo := 0) (n := ((n : Nat) : Int).toNat) (fun j H5 => ∃ ac : List V, Same H2 H5 ∧ H5 D2 = some (.lst ac) ∧ AllF H5 ac (extF j row) ∧ ac.length ≤ j) ⟨[], Same.new hD2, upd_same, .nil, Nat.le_refl _⟩ (fun j H5 hj h => ?_) (fun H5 h => ?_)
        · obtain ⟨ac, s5, hac, hL5, hz5⟩ := h
          have hb5 : FT H5 b (vi row) := hb2.keep s5
          rw [show (0 : Int) + ((j : Nat) : Int) = ((j : Nat) : Int) from Int.zero_add _]
          refine ⟨rfl, _, rfl, _, rfl, b, vi row, rfl, .inr hb5.seq, rfl, flat_vi row, _, rfl, ?_⟩
          show if (!inV (.int ((j : Nat) : Int)) (vi row)) = true then _ else _
          rw [inV_int]
          by_cases hc : row.contains ((j : Nat) : Int) = true
          · rw [hc]
            refine iteF ⟨ac, s5, hac, ?_, by omega⟩
            rw [ext_succ, if_pos hc, List.append_nil]
            exact hL5
          · have hc' : row.contains ((j : Nat) : Int) = false := by simpa using hc
            rw [hc']
            refine iteT ⟨_, rfl, _, rfl, sz5 (show 1 ≤ 1000 by decide), fun p ob np nd2 => ?_⟩
            have s6 := Same.new (o := .frz ob (.tup [.int ((j : Nat) : Int)])) np
            refine cat_F (hb5.keep s6).seq (.inl (.inr ⟨ob, upd_same⟩)) (by rw [List.length_map, hrl]; show i + 1 ≤ 1000; omega) (fun _ e => nomatch e) (fun _ => FT.made nd2) fun H7 r s7 f7 => ?_
            have hD7 : H7 D2 = some (.lst ac) := s7 _ _ (s6 _ _ hac)
            refine ⟨ac, hD7, small1000 (by omega), ac ++ [.ref r], Same.mut ((s5.trans s6).trans s7) hD2, upd_same, ?_, ?_⟩
            · rw [ext_succ, if_neg hc]
              refine pair_app (AllF.upd ((hL5.keep s6).keep s7) hD7) (.cons ⟨r, rfl, ftUpd ?_ hD7⟩ .nil)
              rw [vi_app]
              exact f7
            · rw [List.length_append, List.length_singleton]
              omega
        · obtain ⟨ac, s5, hac, hL5, hz5⟩ := h
          rw [Int.toNat_natCast] at hL5 hz5
          have hg5 := s5 _ _ hg
          refine ⟨g, D2, acc, ac, rfl, rfl, hg5, hac, sz5 (by omega), fun r nr => ?_⟩
          have s6 := Same.new (o := .lst (acc ++ ac)) nr
          refine ⟨r, _, acc ++ ac, rfl, (s4.trans s5).trans s6, upd_same, ?_, ?_⟩
          · rw [flat_take _ _ _ _ hrow]
            exact pair_app ((hL.keep s5).keep s6) (hL5.keep s6)
          · rw [List.length_append]
            omega
      · obtain ⟨g, v4, acc, rfl, s4, hg, hL, _⟩ := h
        rw [hA.len, List.take_length] at hL
        exact ⟨_, rfl, g, _, _, _, acc, rfl, s23.trans s4, hg, hL⟩
    · obtain ⟨q, v, v3, v4, xs, rfl, s2, hq, hA⟩ := h
      rw [Int.toNat_natCast] at hA
      exact ⟨_, rfl, k H' q xs s2 (.inl (.inl hq)) hA⟩

/-! ### _law_wrong -/
abbrev sLWrong : Stmt := topS 34
theorem scLWrong : FnScope ["_law_line", "_law_found", "_law_place", "_law_other"] ["_law_line"] (defScope sLWrong) := ⟨rfl, rfl, rfl, by decide +kernel, rfl, by decide +kernel, by decide +kernel⟩
def spLWrong (K : PySem.W.Frag) : Sp := fun vs H Q _ => ∃ (l : Addr) (ns : List Int), vs = [.ref l] ∧ SqT K H l (vi ns) ∧ ns.length ≤ 8 ∧ ∀ (H' : Hp) (r : Addr) (ys : List V), Same H H' → SqL K H' r ys → (∀ y ∈ ys, PairAt H' y) → ys.isEmpty = (wrongL ns).isEmpty → Q (.ref r) H'
theorem has_lwrong (D : Def K mg "_law_wrong" sLWrong ["_law_line"]) (T : Txt mg) : Has P w K mg base 1 "_law_wrong" ["_law_line"] (spLWrong K) := by
  refine D.has fun f fd F => F.ok scLWrong (fun vs H Q E h => ?_) (fun cdv A outer s H vs Q E hr h => ?_)
  · obtain ⟨l, ns, rfl, _⟩ := h
    rfl
  · obtain ⟨l, ns, rfl, hl, hz, k⟩ := h
    refine ⟨_, pss_cons (ps_set (i := 1) scLWrong.nd rfl (.inl rfl) (pe_lst pa_nil))
      (pss_cons (ps_for PassesOwn.never rfl (pi_range1 (by rfl) T.range (pa_cons (pe_callB call_len_seq (by rfl) T.len PySem.boot_len (pa_cons (pv 0) pa_nil)) pa_nil)) (pg_name (i := 2) scLWrong.nd rfl (.inr rfl))
        (pss_one (ps_set (i := 1) scLWrong.nd rfl (.inl rfl) (pe_op op_cat (pv 1) (pe_lc (own := [("_law_other", 3)]) (g := gName 3) (tt := tTest (tOp (rI0 fun i j => .bl (decide (j < i))) (tVar 3) (tOp (rIxT K) (tVar 0) (tVar 2))))
          (te := tTup (tCons (tOp (rIxT K) (tVar 0) (tVar 2)) (tCons (tVar 3) tNil))) rfl scLWrong.nd (pi_tup (pe_slice sl_tupA (pv 0) (po_some (pe_op op_add (pv 2) pe_int)) po_none))
          (blkOk_by (N := ["_law_line", "_law_found", "_law_place", "_law_other"]) (sc := defScope sLWrong) (by decide +kernel)) (fun _ _ _ _ _ => pg_name (i := 3) scLWrong.nd rfl (.inl rfl))
          (fun _ _ _ _ _ => pts_one (pt_cmpR op_gt (pv 3) (pe_ix ix_tup (pv 0) (pv 2) (fun _ _ => rfl)) (by rfl))) (fun _ _ _ _ _ => pe_tup (pa_cons (pe_ix ix_tup (pv 0) (pv 2) (fun _ _ => rfl)) (pa_cons (pv 3) pa_nil))))))))
      (pss_one (ps_ret (pe_callB cr_sortedP (by rfl) T.sorted (by decide +kernel) (pa_cons (pv 1) pa_nil))))), ?_⟩
    refine ⟨Nat.zero_le _, fun q nq => ?_⟩
    have s1 := Same.new (o := .lst []) nq
    refine ⟨_, rfl, l, vi ns, rfl, .inr (Same.seqT s1 hl), _, rfl, by omega, by rw [List.length_map]; omega, ?_⟩
    rw [show (((vi ns).length : Nat) : Int).toNat = ns.length by rw [Int.toNat_natCast, List.length_map]]
    refine for_range (lo := 0) (n := ns.length) (fun i σ H' => ∃ (q : Addr) (v : Option V) (xs : List V), σ = [some (.ref l), some (.ref q), v, Option.none] ∧ Same H H' ∧ H' q = some (.lst xs) ∧ (∀ x ∈ xs, PairAt H' x) ∧ xs.length = (wrongK ns i).length ∧ xs.length ≤ 8 * i)
      ⟨q, Option.none, [], rfl, s1, upd_same, (fun x z => absurd z List.not_mem_nil), rfl, Nat.zero_le _⟩ (fun i σ H' hi h => ?_) (fun σ H' h => ?_)
    · obtain ⟨q, v, xs, rfl, s2, hq, hP, hc, hb⟩ := h
      rw [show (0 : Int) + ((i : Nat) : Int) = ((i : Nat) : Int) from Int.zero_add _]
      have hl2 := Same.seqT s2 hl
      refine ⟨_, rfl, _, rfl, _, rfl, _, _, rfl, rfl, _, rfl, ?_⟩
      refine no_part ?_
      refine cut_any hl2 fun H3 a3 s3 h3 => ⟨a3, rfl, ⟨_, h3⟩, fun D2 hD2 => ?_⟩
      rw [show ((i : Nat) : Int) + 1 = ((i + 1 : Nat) : Int) by omega, cut_from (by omega)] at h3
      have hq3 := s3 _ _ hq
      have at_i : ∀ H4 : Hp, atI (vi ns) ((i : Nat) : Int) = some (.int (ns.getD i 0)) := fun _ => at_vi hi
      refine turns_tup (xs := vi (ns.drop (i + 1))) (fun j H4 => ∃ ac : List V, Same H3 H4 ∧ H4 D2 = some (.lst ac) ∧ (∀ x ∈ ac, PairAt H4 x) ∧ ac.length = cntK (ns.getD i 0) (ns.drop (i + 1)) j)
        ⟨[], Same.new hD2, upd_same, (fun x z => absurd z List.not_mem_nil), rfl⟩ (fun j H4 _ h => ?_) (fun j x H4 hx h => ?_) (fun H4 h => ?_)
      · obtain ⟨ac, s4, _⟩ := h
        exact Same.seqT s4 h3
      · obtain ⟨ac, s4, hac, hP4, hn4⟩ := h
        obtain ⟨o, hg, rfl⟩ := vi_get hx
        have hl4 := Same.seqT (s3.trans s4) hl2
        have c8 := cnt_le (ns.getD i 0) (ns.drop (i + 1)) j
        rw [List.length_drop] at c8
        refine ⟨rfl, _, rfl, _, rfl, _, rfl, l, vi ns, _, .int (ns.getD i 0), rfl, rfl, hl4, at_i H4, _, _, rfl, rfl, _, rfl, ?_⟩
        by_cases hcmp : ns.getD i 0 < o
        · rw [decide_eq_true hcmp]
          refine iteT ⟨_, rfl, _, rfl, l, vi ns, _, .int (ns.getD i 0), rfl, rfl, hl4, at_i H4, _, rfl, sz5 (show 2 ≤ 1000 by decide), fun p np => ?_⟩
          have s5 := Same.new (o := .tup [.int (ns.getD i 0), .int o]) np
          have hD5 := s5 _ _ hac
          refine ⟨ac, hD5, small1000 (by omega), ac ++ [.ref p], Same.mut (s4.trans s5) hD2, upd_same, fun x hx2 => ?_, ?_⟩
          · rcases List.mem_append.mp hx2 with z | z
            · exact pairUpd ((hP4 x z).keep s5) hD5
            · rw [List.mem_singleton.mp z]
              exact pairUpd ⟨p, _, _, rfl, upd_same⟩ hD5
          · rw [List.length_append, List.length_singleton, cnt_succ hg, if_pos hcmp, hn4]
        · rw [decide_eq_false hcmp]
          refine iteF ⟨ac, s4, hac, hP4, ?_⟩
          exact hn4.trans (by rw [cnt_succ hg, if_neg hcmp]; rfl)
      · obtain ⟨ac, s4, hac, hP4, hn4⟩ := h
        rw [List.length_map] at hn4
        have c8 := cnt_le (ns.getD i 0) (ns.drop (i + 1)) (ns.drop (i + 1)).length
        rw [List.length_drop] at c8
        rw [List.length_drop] at hn4
        have hq4 := s4 _ _ hq3
        refine ⟨q, D2, xs, ac, rfl, rfl, hq4, hac, sz5 (by omega), fun r nr => ?_⟩
        have s5 := Same.new (o := .lst (xs ++ ac)) nr
        refine ⟨r, _, xs ++ ac, rfl, ((s2.trans s3).trans s4).trans s5, upd_same, fun x hx2 => ?_, ?_, ?_⟩
        · rcases List.mem_append.mp hx2 with z | z
          · exact (((hP x z).keep s3).keep s4).keep s5
          · exact (hP4 x z).keep s5
        · rw [List.length_append, wrong_len, hc, hn4, List.length_drop]
        · rw [List.length_append]
          omega
    · obtain ⟨q, v, xs, rfl, s2, hq, hP, hc, hb⟩ := h
      refine ⟨_, rfl, q, xs, rfl, .inl (.inl hq), hP, fun ys p hp np => ?_⟩
      have s5 := Same.new (o := .lst ys) np
      refine k _ p ys (s2.trans s5) (.inl (.inl upd_same)) (fun y hy => (hP y (hp.mem_iff.mp hy)).keep s5) ?_
      have e1 : ys.length = (wrongL ns).length := hp.length_eq.trans hc
      cases ys <;> cases hw : wrongL ns <;> rw [hw] at e1 <;> simp at e1 ⊢
end
end Ov
/-! The law's likeness of two values. -/
namespace Ov
open PySem PySem.Spec PyProof.Rows L2 OvR
section
variable {P : Program} {w : World} {K : PySem.W.Frag} {mg : Str → Option Value} {base : Heap}
abbrev sAlike : Stmt := topS 30
theorem scAlike : FnScope ["_law_found", "_law_due", "_law_k"] ["_law_found", "_law_due"] (defScope sAlike) := ⟨rfl, rfl, rfl, by decide +kernel, rfl, by decide +kernel, by decide +kernel⟩
/-- never called -/
def spNo : Sp := fun _ _ _ _ => False
theorem has_no {ps : List Str} {x : Str} {st : Stmt} (D : Def K mg x st ps) : Has P w K mg base 0 x ps spNo :=
  D.has fun _ _ _ => ⟨fun _ _ _ _ h => h.elim, fun _ _ _ _ _ _ _ _ _ _ _ _ _ h => h.elim⟩
/-- what sp hands back for two equal ints -/
def IntsAlike (sp : Sp) : Prop := ∀ (i : Int) (H : Hp) (Q : VK) (E : XK), (∀ H' : Hp, Same H H' → Q (.bl true) H') → sp [.int i, .int i] H Q E
/-- two values that are alike -/
def Twins (K : PySem.W.Frag) (sp : Sp) (H : Hp) (x y : V) : Prop :=
  (∃ i, x = .int i ∧ y = .int i) ∨ (∃ b, x = .bl b ∧ y = .bl b) ∨ (x = .non ∧ y = .non) ∨ (IntsAlike sp ∧ ∃ (r t : Addr) (l : List Int), x = .ref r ∧ y = .ref t ∧ SqT K H r (vi l) ∧ SqT K H t (vi l) ∧ l.length ≤ 1000)
def spAlike (K : PySem.W.Frag) (sp : Sp) : Sp := fun vs H Q _ => ∃ x y, vs = [x, y] ∧ Twins K sp H x y ∧ ∀ H' : Hp, Same H H' → Q (.bl true) H'
theorem kit_two {t : String} {b : Bool} (h1 : kitB t "tuple" = some b) (h2 : kitB t "list" = some false) : PySem.W.kitAny K (.type t) [.type "tuple", .type "list"] = some b :=
  kitAny_cons (kit_ty h1) (fun e => by rw [e]; exact kitAny_cons (kit_ty h2) (fun _ => kitAny_nil) (fun z => nomatch z)) id
theorem has_alike {j : Nat} {sp : Sp} (D : Def K mg "_law_alike" sAlike ["_law_found", "_law_due"]) (T : Txt mg) (G : Has P w K mg base j "_law_alike" ["_law_found", "_law_due"] sp) : Has P w K mg base (j + 1) "_law_alike" ["_law_found", "_law_due"] (spAlike K sp) := by
  refine D.has fun f fd F => F.ok scAlike (fun vs H Q E h => ?_) (fun cdv A outer s H vs Q E hr h => ?_)
  · obtain ⟨x, y, rfl, _⟩ := h
    rfl
  · obtain ⟨x, y, rfl, tw, k⟩ := h
    refine ⟨_, pss_cons (ps_if (pt_val (pe_callB call_isiT (by rfl) T.isinstance (by decide +kernel) (pa_cons (pv 1) (pa_cons (pe_tup (pa_cons (pe_bltn (v := .ty "tuple") (by rfl) T.tuple (by decide +kernel) rfl) (pa_cons (pe_bltn (v := .ty "list") (by rfl) T.list (by decide +kernel) rfl) pa_nil))) pa_nil))))
        (pss_cons (ps_if (PW.pt (pw_or (pt_not (pt_val (pe_callB call_isiT (by rfl) T.isinstance (by decide +kernel) (pa_cons (pv 0) (pa_cons (pe_tup (pa_cons (pe_bltn (v := .ty "tuple") (by rfl) T.tuple (by decide +kernel) rfl) (pa_cons (pe_bltn (v := .ty "list") (by rfl) T.list (by decide +kernel) rfl) pa_nil))) pa_nil)))))
            (pw_or1 (pt_cmpR op_ne (pe_callB call_isi (by rfl) T.isinstance (by decide +kernel) (pa_cons (pv 0) (pa_cons (pe_bltn (v := .ty "list") (by rfl) T.list (by decide +kernel) rfl) pa_nil))) (pe_callB call_isi (by rfl) T.isinstance (by decide +kernel) (pa_cons (pv 1) (pa_cons (pe_bltn (v := .ty "list") (by rfl) T.list (by decide +kernel) rfl) pa_nil))) (by rfl)))))
          (pss_one ps_never) pss_nil)
        (pss_cons (ps_if (pt_cmpR op_ne (pe_callB call_len_seq (by rfl) T.len PySem.boot_len (pa_cons (pv 0) pa_nil)) (pe_callB call_len_seq (by rfl) T.len PySem.boot_len (pa_cons (pv 1) pa_nil)) (by rfl)) (pss_one ps_never) pss_nil)
        (pss_one (ps_ret (pe_cmpR (op_eqD hr.units) (pe_lc (own := [("_law_k", 2)]) (g := gName 2) (tt := tNot (tB (tCall sp [] E0 (tCons (tOp (rIxT K) (tVar 0) (tVar 2)) (tCons (tOp (rIxT K) (tVar 1) (tVar 2)) tNil))))) (te := tVar 2) rfl scAlike.nd
          (pi_range1 (by rfl) T.range (pa_cons (pe_callB call_len_seq (by rfl) T.len PySem.boot_len (pa_cons (pv 1) pa_nil)) pa_nil)) (blkOk_by (N := ["_law_found", "_law_due", "_law_k"]) (sc := defScope sAlike) (by decide +kernel)) (fun _ _ _ _ _ => pg_name (i := 2) scAlike.nd rfl (.inl rfl))
          (fun _ _ _ _ _ => pts_one (pt_not (pt_val (pe_has G hr (by rfl) (pa_cons (pe_ix ix_tup (pv 0) (pv 2) (fun _ _ => rfl)) (pa_cons (pe_ix ix_tup (pv 1) (pv 2) (fun _ _ => rfl)) pa_nil)))))) (fun _ _ _ _ _ => pv 2)) (pe_lst pa_nil) (by rfl)))))) pss_nil)
      (pss_cons (ps_if (PW.pt (pw_or (pt_cmpR op_isN (pv 1) pe_non (by rfl)) (pw_or1 (pt_val (pe_callB call_isi (by rfl) T.isinstance (by decide +kernel) (pa_cons (pv 1) (pa_cons (pe_bltn (v := .ty "str") (by rfl) T.str (by decide +kernel) rfl) pa_nil)))))))
        (pss_one (ps_ret (pe_and (pe_cmpR op_eq (pv 0) (pv 1) (nomark _)) (pe_one (pe_cmpR op_eq (pe_callB call_isi (by rfl) T.isinstance (by decide +kernel) (pa_cons (pv 0) (pa_cons (pe_bltn (v := .ty "str") (by rfl) T.str (by decide +kernel) rfl) pa_nil))) (pe_callB call_isi (by rfl) T.isinstance (by decide +kernel) (pa_cons (pv 1) (pa_cons (pe_bltn (v := .ty "str") (by rfl) T.str (by decide +kernel) rfl) pa_nil))) (by rfl)))))) pss_nil)
      (pss_one (ps_ret (pe_and (pe_callB call_isi (by rfl) T.isinstance (by decide +kernel) (pa_cons (pv 0) (pa_cons (pe_bltn (v := .ty "int") (by rfl) T.int (by decide +kernel) rfl) pa_nil)))
        (pe_and (pe_cmpR op_eq (pe_callB call_isi (by rfl) T.isinstance (by decide +kernel) (pa_cons (pv 0) (pa_cons (pe_bltn (v := .ty "bool") (by rfl) T.bool (by decide +kernel) rfl) pa_nil))) (pe_callB call_isi (by rfl) T.isinstance (by decide +kernel) (pa_cons (pv 1) (pa_cons (pe_bltn (v := .ty "bool") (by rfl) T.bool (by decide +kernel) rfl) pa_nil))) (by rfl))
        (pe_one (pe_cmpR op_eq (pv 0) (pv 1) (nomark _)))))))), ?_⟩
    refine ⟨_, rfl, sz5 (show 2 ≤ 1000 by decide), fun p np => ?_⟩
    have s1 := Same.new (o := .tup [V.ty "tuple", V.ty "list"]) np
    have two : Paired ClsV [V.ty "tuple", V.ty "list"] [Value.type "tuple", Value.type "list"] := .cons (.ty "tuple") (.cons (.ty "list") .nil)
    rcases tw with ⟨i, rfl, rfl⟩ | ⟨b, rfl, rfl⟩ | ⟨rfl, rfl⟩ | ⟨hI, r, t, l, rfl, rfl, h1, h2, hz⟩
    · refine ⟨_, p, _, _, _, false, rfl, upd_same, two, .base (.int i), kit_two (by decide +kernel) (by decide +kernel), false, rfl, iteF ?_⟩
      refine ⟨_, rfl, rfl, false, rfl, iteF ?_⟩
      refine ⟨_, rfl, _, _, _, _, false, rfl, .ty "str", .base (.int i), kit_ty (by decide +kernel), false, rfl, iteF ?_⟩
      refine ⟨_, rfl, _, _, _, _, true, rfl, .ty "int", .base (.int i), kit_ty (by decide +kernel), true, rfl, iteT ?_⟩
      refine ⟨_, rfl, _, _, _, _, false, rfl, .ty "bool", .base (.int i), kit_ty (by decide +kernel), _, rfl, _, _, _, _, false, rfl, .ty "bool", .base (.int i), kit_ty (by decide +kernel), rfl, true, rfl, iteT ?_⟩
      refine ⟨_, rfl, _, rfl, rfl, ?_⟩
      show Q (.bl (decide (V.int i = V.int i))) _
      rw [decide_eq_true rfl]
      exact k _ s1
    · refine ⟨_, p, _, _, _, false, rfl, upd_same, two, .base (.bl b), kit_two (by decide +kernel) (by decide +kernel), false, rfl, iteF ?_⟩
      refine ⟨_, rfl, rfl, false, rfl, iteF ?_⟩
      refine ⟨_, rfl, _, _, _, _, false, rfl, .ty "str", .base (.bl b), kit_ty (by decide +kernel), false, rfl, iteF ?_⟩
      refine ⟨_, rfl, _, _, _, _, true, rfl, .ty "int", .base (.bl b), kit_ty (by decide +kernel), true, rfl, iteT ?_⟩
      refine ⟨_, rfl, _, _, _, _, true, rfl, .ty "bool", .base (.bl b), kit_ty (by decide +kernel), _, rfl, _, _, _, _, true, rfl, .ty "bool", .base (.bl b), kit_ty (by decide +kernel), rfl, true, rfl, iteT ?_⟩
      refine ⟨_, rfl, _, rfl, rfl, ?_⟩
      show Q (.bl (decide (V.bl b = V.bl b))) _
      rw [decide_eq_true rfl]
      exact k _ s1
    · refine ⟨_, p, _, _, _, false, rfl, upd_same, two, .base .non, kit_two (by decide +kernel) (by decide +kernel), false, rfl, iteF ?_⟩
      refine ⟨_, rfl, rfl, true, rfl, iteT (iteT ?_)⟩
      refine ⟨_, rfl, _, rfl, rfl, true, rfl, iteT ?_⟩
      exact ⟨_, rfl, _, _, _, _, false, rfl, .ty "str", .base .non, kit_ty (by decide +kernel), _, rfl, _, _, _, _, false, rfl, .ty "str", .base .non, kit_ty (by decide +kernel), rfl, k _ s1⟩
    · have h1' := Same.seqT s1 h1
      have h2' := Same.seqT s1 h2
      refine ⟨_, p, _, _, _, true, rfl, upd_same, two, tyT h2', kit_two (by decide +kernel) (by decide +kernel), true, rfl, iteT ?_⟩
      refine ⟨_, rfl, sz5 (show 2 ≤ 1000 by decide), fun p2 np2 => ?_⟩
      have s2 := s1.trans (Same.new (o := .tup [V.ty "tuple", V.ty "list"]) np2)
      have g1 := Same.seqT s2 h1
      have g2 := Same.seqT s2 h2
      refine ⟨_, p2, _, _, _, true, rfl, upd_same, two, tyT g1, kit_two (by decide +kernel) (by decide +kernel), true, rfl, iteF ?_⟩
      refine ⟨_, rfl, _, _, _, _, false, rfl, .ty "list", tyT g1, kit_ty (by decide +kernel), _, rfl, _, _, _, _, false, rfl, .ty "list", tyT g2, kit_ty (by decide +kernel), rfl, false, rfl, iteF ?_⟩
      refine ⟨_, rfl, r, vi l, rfl, .inr g1, _, rfl, t, vi l, rfl, .inr g2, rfl, _, rfl, ?_⟩
      rw [decide_eq_true rfl]
      refine iteF ?_
      refine ⟨_, rfl, t, vi l, rfl, .inr g2, _, rfl, by omega, by rw [List.length_map]; omega, fun D2 hD2 => ?_⟩
      rw [show (((vi l).length : Nat) : Int).toNat = l.length by rw [Int.toNat_natCast, List.length_map]]
      generalize upd (upd H p (.tup [V.ty "tuple", V.ty "list"])) p2 (.tup [V.ty "tuple", V.ty "list"]) = H1 at s2 g1 g2 hD2 ⊢
      refine turns_range (lo := 0) (n := l.length) (fun i H' => Same H1 H' ∧ H' D2 = some (.lst [])) ⟨Same.new hD2, upd_same⟩ (fun i H' hi h => ?_) (fun H' h => ?_)
      · obtain ⟨s3, hd⟩ := h
        rw [show (0 : Int) + ((i : Nat) : Int) = ((i : Nat) : Int) from Int.zero_add _]
        refine ⟨rfl, _, rfl, _, rfl, r, vi l, _, .int (l.getD i 0), rfl, rfl, Same.seqT s3 g1, at_vi hi, _, rfl, _, rfl, t, vi l, _, .int (l.getD i 0), rfl, rfl, Same.seqT s3 g2, at_vi hi, ?_⟩
        exact hI _ H' _ _ fun H2 s => ⟨true, rfl, iteF ⟨s3.trans s, s _ _ hd⟩⟩
      · obtain ⟨s3, hd⟩ := h
        refine ⟨Nat.zero_le _, fun z nz => ?_⟩
        have s4 := Same.new (o := .lst []) nz
        refine ⟨.list [], .list [], .lst (.inl (.inl (s4 _ _ hd))) .nil, .lst (.inl (.inl upd_same)) .nil, shaped_lst [], shaped_lst [], ?_⟩
        rw [eqv_nil]
        exact k _ ((s2.trans s3).trans s4)
theorem alike_ints {sp : Sp} : IntsAlike (spAlike K sp) := fun i _ _ _ q => ⟨_, _, rfl, .inl ⟨i, rfl, rfl⟩, q⟩
end
end Ov
/-! The law. -/
namespace Ov
open PySem PySem.Spec PyProof.Rows L2 OvR
theorem cat_any {K : PySem.W.Frag} {H : Hp} {a b : Addr} {xs ys : List V} {Q : VK} (ha : SqT K H a xs) (hb : SqT K H b ys) (hz : xs.length + ys.length ≤ 1000) (q : ∀ (H' : Hp) (r : Addr), Same H H' → SqT K H' r (xs ++ ys) → Q (.ref r) H') : rCatA K (.ref a) (.ref b) H Q := by
  refine ⟨a, b, xs, ys, rfl, rfl, ha, hb, sz5 hz, fun e => ?_, fun _ e => ?_, fun _ _ p np => q _ p (Same.new np) (.inl (.inl upd_same))⟩
  · refine q H b (Same.refl H) ?_
    rw [e]
    exact hb
  · refine q H a (Same.refl H) ?_
    rw [e, List.append_nil]
    exact ha
theorem cut_row (l : List Int) (lo hi : Option Int) : ∃ ds, cutV (vi l) lo hi = vi ds ∧ (∀ d ∈ ds, d ∈ l) ∧ ds.length ≤ l.length := by
  refine ⟨(l.drop (HT.sIx (vi l).length 0 lo)).take (HT.sIx (vi l).length (vi l).length hi - HT.sIx (vi l).length 0 lo), ?_, fun d hd => List.mem_of_mem_drop (List.mem_of_mem_take hd), ?_⟩
  · unfold cutV vi
    rw [List.map_take, List.map_drop]
  · rw [List.length_take, List.length_drop]
    omega
theorem at_st {R : L2.St → Hp → Prop} {σ σ' : L2.St} {H : Hp} (e : σ = σ') (h : R σ' H) : R σ H := by
  rw [e]
  exact h
theorem vi_rev (l : List Int) : (vi l).reverse = vi l.reverse := List.map_reverse.symm
theorem find_succ {α : Type} {g : α → Bool} {L : List α} {i : Nat} {x : α} (h : L[i]? = some x) : (L.take (i + 1)).find? g = ((L.take i).find? g).or (if g x = true then some x else Option.none) := by
  rw [List.take_add_one, h, List.find?_append]
  refine congrArg _ ?_
  show List.find? g [x] = _
  rw [List.find?_cons]
  cases g x <;> rfl
theorem opt_none {K : PySem.W.Frag} {H : Hp} {v : V} {o : Option (List Int)} (h : OptV K H v o) : decide (v = .non) = o.isNone := by
  cases o with
  | none => exact decide_eq_true h
  | some l =>
    obtain ⟨r, rfl, _⟩ := h
    exact decide_eq_false (fun z => nomatch z)
theorem opt_twins {K : PySem.W.Frag} {sp : Sp} {H : Hp} {x y : V} {n : Nat} {o : Option (List Int)} (hI : IntsAlike sp) (hn : Sz n) (ho : ∀ l, o = some l → l ∈ linesF n) (hx : OptV K H x o) (hy : OptV K H y o) : Twins K sp H x y := by
  cases o with
  | none => exact .inr (.inr (.inl ⟨hx, hy⟩))
  | some l =>
    obtain ⟨r, rfl, h1⟩ := hx
    obtain ⟨t, rfl, h2⟩ := hy
    have e := ln_len (show Ln n l from ⟨hn, ho l rfl⟩)
    have := hn.2
    exact .inr (.inr (.inr ⟨hI, r, t, l, rfl, rfl, h1, h2, by omega⟩))
section
variable {P : Program} {w : World} {K : PySem.W.Frag} {mg : Str → Option Value} {base : Heap}
/-- what the law names -/
structure Uses (P : Program) (w : World) (K : PySem.W.Frag) (mg : Str → Option Value) (base : Heap) : Prop where
  taken : Has P w K mg base 1 "_law_taken" ["_law_row_here", "_law_many"] (spTaken K)
  row : Has P w K mg base 2 "_law_row" ["_law_row_here", "_law_line", "_law_many"] (spLRow K)
  done : Has P w K mg base 2 "_law_done" ["_law_line", "_law_calls"] (spLDone K)
  wrong : Has P w K mg base 1 "_law_wrong" ["_law_line"] (spLWrong K)
  lines : Has P w K mg base 1 "_law_lines" ["_law_size"] (spLines K)
  alike : Has P w K mg base 2 "_law_alike" ["_law_found", "_law_due"] (spAlike K (spAlike K spNo))
  tell : Has P w K mg base 5 "telling" ["size", "one", "other"] (spTell K)
  same : Has P w K mg base 5 "does_same" ["size", "one", "other"] (spSame K)
  rest : Has P w K mg base 5 "does_rest" ["size", "calls"] (spRest K)
  less : Has P w K mg base 5 "restless_line" ["size", "calls"] (spLess K)
abbrev sLaw : Stmt := topS 36
theorem scLaw : FnScope ["_law_script", "_law_row_here", "_law_size", "_law_whole", "_law_one", "_law_other", "_law_side", "_law_due", "_law_calm", "_law_line"] ["_law_script"] (defScope sLaw) := ⟨rfl, rfl, rfl, by decide +kernel, rfl, by decide +kernel, by decide +kernel⟩
def spLaw (K : PySem.W.Frag) : Sp := fun vs H Q _ => ∃ (s : Addr) (ns : List Int), vs = [.ref s] ∧ SqL K H s (vi ns) ∧ ∀ H' : Hp, Q (.bl true) H'
theorem ok_law {f : Addr} {fd : FuncData} (F : Fun K "law" "law" sLaw f fd) (T : Txt mg) (U : Uses P w K mg base) : FnOk P w K mg base CX0 6 f fd ["_law_script"] (spLaw K) := by
  refine F.ok scLaw (fun vs H Q E h => ?_) (fun cdv A outer s0 H vs Q E hr h => ?_)
  · obtain ⟨s, ns, rfl, _⟩ := h
    rfl
  · obtain ⟨s, ns, rfl, hS, k⟩ := h
    have r1 : Room 1 _ := hr.mono (by decide)
    have r2 : Room 2 _ := hr.mono (by decide)
    refine ⟨_, pss_cons (ps_set (i := 1) scLaw.nd rfl (.inl rfl) (pe_lst (pa_cons (pv 0) (pa_cons pe_int (pa_cons pe_int (pa_cons pe_int pa_nil))))))
      (pss_cons (ps_set (i := 2) scLaw.nd rfl (.inl rfl) (pe_op op_add pe_int (pe_has U.taken r1 (by rfl) (pa_cons (pv 1) (pa_cons pe_int pa_nil)))))
      (pss_cons (ps_set (i := 3) scLaw.nd rfl (.inl rfl) (pe_tupRg rfl (by rfl) T.tuple (prg_1 (by rfl) T.range (pv 2))))
      (pss_cons (ps_par (i := 4) (j := 5) (by rfl) scLaw.nd rfl rfl (by decide) rfl rfl (pa_cons (pe_has U.row r2 (by rfl) (pa_cons (pv 1) (pa_cons (pv 3) (pa_cons pe_int pa_nil)))) (pa_cons (pe_has U.row r2 (by rfl) (pa_cons (pv 1) (pa_cons (pv 3) (pa_cons pe_int pa_nil)))) pa_nil)) (by rfl))
      (pss_cons (ps_set (i := 6) scLaw.nd rfl (.inl rfl) (pe_has U.taken r1 (by rfl) (pa_cons (pv 1) (pa_cons pe_int pa_nil))))
      (Evl.pss_cut (ps_if (pt_cmpR op_eq (pv 6) pe_int (nomark _)) (pss_one (ps_set (i := 5) scLaw.nd rfl (.inl rfl) (pe_op op_catA (pv 4) (pe_slice sl_tupA (pv 4) (po_some (pe_un un_neg pe_int)) po_none)))) pss_nil)
      (Evl.pss_cut (ps_if (pt_cmpR op_eq (pv 6) pe_int (nomark _)) (pss_one (ps_set (i := 4) scLaw.nd rfl (.inl rfl) (pe_op op_catA (pe_revT (pv 3)) (pv 4)))) pss_nil)
      (pss_cons (ps_asg (pe_tup (pa_cons pe_non (pa_cons pe_non pa_nil))) (pg_tup (by rfl) (pgs_cons (pg_name (i := 7) scLaw.nd rfl (.inl rfl)) (pgs_cons (pg_name (i := 8) scLaw.nd rfl (.inl rfl)) pgs_nil))))
      (pss_cons (ps_for PassesOwn.never rfl (pi_list (pe_has U.lines r1 (by rfl) (pa_cons (pv 2) pa_nil))) (pg_name (i := 9) scLaw.nd rfl (.inl rfl))
        (Evl.pss_cut (ps_if (PW.pt (pw_and (pt_cmpR op_isN (pv 7) pe_non (by rfl)) (pw_and1 (pt_cmpR (op_neD hr.units) (pe_has U.done r2 (by rfl) (pa_cons (pv 9) (pa_cons (pv 4) pa_nil))) (pe_has U.done r2 (by rfl) (pa_cons (pv 9) (pa_cons (pv 5) pa_nil))) (by rfl)))))
          (pss_one (ps_set (i := 7) scLaw.nd rfl (.inl rfl) (pv 9))) pss_nil)
        (pss_one (ps_if (PW.pt (pw_and (pt_cmpR op_isN (pv 8) pe_non (by rfl)) (pw_and1 (pt_cmpR (op_neD hr.units) (pe_has U.wrong r1 (by rfl) (pa_cons (pe_has U.done r2 (by rfl) (pa_cons (pv 9) (pa_cons (pv 4) pa_nil))) pa_nil)) (pe_lst pa_nil) (by rfl)))))
          (pss_one (ps_set (i := 8) scLaw.nd rfl (.inl rfl) (pv 9))) pss_nil))))
      (pss_cons (ps_if (PW.pt (pw_or (pt_not (pt_val (pe_has U.alike r2 (by rfl) (pa_cons (pe_has U.tell hr (by rfl) (pa_cons (pv 2) (pa_cons (pv 4) (pa_cons (pv 5) pa_nil)))) (pa_cons (pv 7) pa_nil)))))
          (pw_or1 (pt_not (pt_val (pe_has U.alike r2 (by rfl) (pa_cons (pe_has U.same hr (by rfl) (pa_cons (pv 2) (pa_cons (pv 4) (pa_cons (pv 5) pa_nil)))) (pa_cons (pe_cmpR op_isN (pv 7) pe_non (by rfl)) pa_nil)))))))) (pss_one ps_never) pss_nil)
      (pss_cons (ps_if (PW.pt (pw_or (pt_not (pt_val (pe_has U.alike r2 (by rfl) (pa_cons (pe_has U.less hr (by rfl) (pa_cons (pv 2) (pa_cons (pv 4) pa_nil))) (pa_cons (pv 8) pa_nil)))))
          (pw_or1 (pt_not (pt_val (pe_has U.alike r2 (by rfl) (pa_cons (pe_has U.rest hr (by rfl) (pa_cons (pv 2) (pa_cons (pv 4) pa_nil))) (pa_cons (pe_cmpR op_isN (pv 8) pe_non (by rfl)) pa_nil)))))))) (pss_one ps_never) pss_nil)
      (pss_one (ps_ret (pe_and (pe_cmpR op_isBl (pe_has U.rest hr (by rfl) (pa_cons (pv 2) (pa_cons (pe_revT (pv 3)) pa_nil))) pe_bl (by rfl))
        (pe_one (pe_cmpR op_isBl (pe_has U.same hr (by rfl) (pa_cons (pv 2) (pa_cons (pe_revT (pv 3)) (pa_cons (pe_op op_catA (pe_revT (pv 3)) (pv 5)) pa_nil)))) pe_bl (by rfl)))))))))))))))), ?_⟩
    -- row_here = [script, 0, 9529, 0]
    refine ⟨_, rfl, sz5 (show 4 ≤ 1000 by decide), fun a na => ?_⟩
    have hS1 := Same.seq (Same.new (o := .lst [.ref s, .int 0, .int 9529, .int 0]) na) hS
    have d1 : Draw (upd H a (.lst [.ref s, .int 0, .int 9529, .int 0])) a s := ⟨0, 9529, 0, by decide, by decide, by decide, upd_same⟩
    generalize upd H a (.lst [.ref s, .int 0, .int 9529, .int 0]) = H1 at hS1 d1
    -- size = 1 + taken(row_here, 4)
    refine ⟨_, rfl, a, s, ns, 4, rfl, hS1, d1, by decide, by decide, fun H2 v b2 d2 v0 v4 => ⟨_, _, rfl, rfl, ?_⟩⟩
    have hS2 := b2.script d1 hS1
    obtain ⟨n, en⟩ : ∃ n : Nat, (1 : Int) + v = (n : Int) := ⟨(1 + v).toNat, by omega⟩
    have hn : Sz n := ⟨by omega, by omega⟩
    have n4 := hn.2
    show tSeq _ _ _ [some (.ref s), some (.ref a), some (.int (1 + v)), Option.none, Option.none, Option.none, Option.none, Option.none, Option.none, Option.none] H2
    rw [en]
    -- whole = tuple(range(size))
    refine ⟨_, rfl, (n : Int), rfl, RgOk.of_le (by omega) (by omega) (by omega) (by omega), fun b nb => ?_⟩
    have s3 := Same.new (o := .tup (rgV 0 (n : Int))) nb
    have hb3 : SqT K (upd H2 b (.tup (rgV 0 (n : Int)))) b (vi (rng n)) := by
      rw [rg_vi]
      exact .inl (.inl upd_same)
    obtain ⟨x1, x2, x3, y1, y2, y3, hq2⟩ := id d2
    have d3 : Draw (upd H2 b (.tup (rgV 0 (n : Int)))) a s := ⟨x1, x2, x3, y1, y2, y3, s3 _ _ hq2⟩
    have hS3 := (But.of s3).script d2 hS2
    show tSeq _ _ _ [some (.ref s), some (.ref a), some (.int (n : Int)), some (.ref b), Option.none, Option.none, Option.none, Option.none, Option.none, Option.none] (upd H2 b (.tup (rgV 0 (n : Int))))
    generalize upd H2 b (.tup (rgV 0 (n : Int))) = H3 at hb3 d3 hS3 ⊢
    have hbl : (vi (rng n)).length = n := by rw [List.length_map, rng_len]
    -- one, other
    refine ⟨_, rfl, _, rfl, a, s, b, ns, n, _, rfl, hS3, d3, hb3, hbl, hn, fun H4 ra one b4 d4 ha4 hrow4 hl4 => ?_⟩
    obtain ⟨_, _, _, _, _, _, hq3⟩ := id d3
    have hb4 := b4.seqT hq3 hb3
    have hS4 := b4.script d3 hS3
    refine ⟨_, rfl, _, rfl, a, s, b, ns, n, _, rfl, hS4, d4, hb4, hbl, hn, fun H5 rb other b5 d5 hb5' hrow5 hl5 => ⟨_, _, rfl, ?_⟩⟩
    obtain ⟨_, _, _, _, _, _, hq4⟩ := id d4
    have hb5 := b5.seqT hq4 hb4
    have ha5 := b5.seqT hq4 ha4
    have hS5 := b5.script d4 hS4
    -- side
    refine ⟨_, rfl, a, s, ns, 4, rfl, hS5, d5, by decide, by decide, fun H6 side b6 d6 z0 z4 => ?_⟩
    obtain ⟨_, _, _, _, _, _, hq5⟩ := id d5
    have hb6 := b6.seqT hq5 hb5
    have A6 : RowAt K H6 n ra one := ⟨b6.seqT hq5 ha5, hrow4, by omega⟩
    have B6 : RowAt K H6 n rb other := ⟨b6.seqT hq5 hb5', hrow5, by omega⟩
    show Evl.tCut _ _ _ [some (.ref s), some (.ref a), some (.int (n : Int)), some (.ref b), some (.ref ra), some (.ref rb), some (.int side), Option.none, Option.none, Option.none] H6
    clear hS1 d1 b2 d2 hS2 en s3 hq2 d3 hS3 hb3 b4 d4 ha4 hq3 hb4 hS4 b5 d5 hb5' hq4 hb5 ha5 hS5 b6 d6 hq5 nb na
    -- if side == 0: other = one + one[-1:]
    refine ⟨fun σ H' => ∃ (rb : Addr) (other : List Int), σ = [some (.ref s), some (.ref a), some (.int (n : Int)), some (.ref b), some (.ref ra), some (.ref rb), some (.int side), Option.none, Option.none, Option.none] ∧ Same H6 H' ∧ SqT K H' rb (vi other) ∧ Row n other ∧ other.length ≤ 20, ?_, fun σ H7 h => ?_⟩
    · refine ⟨_, rfl, rfl, _, rfl, ite2 (fun _ => ?_) (fun _ => ⟨rb, other, rfl, Same.refl H6, B6.1, B6.2.1, by omega⟩)⟩
      obtain ⟨ds, e1, e2, e3⟩ := cut_row one (some (-1)) Option.none
      refine ⟨_, rfl, _, rfl, 1, rfl, -1, rfl, ?_⟩
      refine no_part ?_
      refine cut_any A6.1 fun H7 a7 s7 h7 => ?_
      rw [e1] at h7
      refine cat_any (Same.seqT s7 A6.1) h7 (by rw [List.length_map, List.length_map]; omega) fun H8 a8 s8 h8 => ?_
      rw [← vi_app] at h8
      exact ⟨a8, one ++ ds, rfl, s7.trans s8, h8, row_app A6.2.1 fun d hd => A6.2.1 d (e2 d hd), by rw [List.length_append]; omega⟩
    obtain ⟨rb, other, rfl, s7, hB7, rB, lB⟩ := h
    have A7 := A6.keep s7
    have hb7 := Same.seqT s7 hb6
    clear B6 hrow5 hl5 A6 hb6 hrow4
    -- if side == 1: one = whole[::-1] + one
    refine ⟨fun σ H' => ∃ (ra : Addr) (one : List Int), σ = [some (.ref s), some (.ref a), some (.int (n : Int)), some (.ref b), some (.ref ra), some (.ref rb), some (.int side), Option.none, Option.none, Option.none] ∧ Same H7 H' ∧ SqT K H' ra (vi one) ∧ Row n one ∧ one.length ≤ 20, ?_, fun σ H8 h => ?_⟩
    · refine ⟨_, rfl, rfl, _, rfl, ite2 (fun _ => ?_) (fun _ => ⟨ra, one, rfl, Same.refl H7, A7.1, A7.2.1, by omega⟩)⟩
      refine ⟨_, rfl, b, _, rfl, hb7, fun p np => ?_⟩
      have s8 := Same.new (o := .tup (vi (rng n)).reverse) np
      have hp : SqT K (upd H7 p (.tup (vi (rng n)).reverse)) p (vi (rng n).reverse) := by
        rw [← vi_rev]
        exact .inl (.inl upd_same)
      refine ⟨_, rfl, cat_any hp (Same.seqT s8 A7.1) (by rw [List.length_map, List.length_map, List.length_reverse, rng_len]; omega) fun H9 a9 s9 h9 => ?_⟩
      rw [← vi_app] at h9
      exact ⟨a9, (rng n).reverse ++ one, rfl, s8.trans s9, h9, row_app row_rev A7.2.1, by rw [List.length_append, List.length_reverse, rng_len]; omega⟩
    obtain ⟨ra, one, rfl, s8, hA8, rA, lA⟩ := h
    have hB8 := Same.seqT s8 hB7
    have hb8 := Same.seqT s8 hb7
    clear A7 hb7 hB7 s7 s8 hl4 H6 H7
    -- due, calm = None, None
    refine ⟨sz5 (show 2 ≤ 1000 by decide), fun p np => ?_⟩
    have s9 := Same.new (o := .tup [V.non, V.non]) np
    refine ⟨p, _, rfl, .inl (.inl upd_same), rfl, _, _, rfl, _, _, rfl, rfl, ?_⟩
    have A9 : RowAt K (upd H8 p (.tup [V.non, V.non])) n ra one := ⟨Same.seqT s9 hA8, rA, by omega⟩
    have B9 : RowAt K (upd H8 p (.tup [V.non, V.non])) n rb other := ⟨Same.seqT s9 hB8, rB, by omega⟩
    have hb9 := Same.seqT s9 hb8
    refine at_st (σ' := [some (.ref s), some (.ref a), some (.int (n : Int)), some (.ref b), some (.ref ra), some (.ref rb), some (.int side), some V.non, some V.non, Option.none]) rfl ?_
    generalize upd H8 p (.tup [V.non, V.non]) = H9 at A9 B9 hb9 ⊢
    clear s9 hA8 hB8 hb8 np
    -- the loop
    refine ⟨_, rfl, n, rfl, hn, fun HL r xs sL hr2 hA => ⟨r, rfl, ⟨xs, hr2⟩, ?_⟩⟩
    have AL := A9.keep sL
    have BL := B9.keep sL
    have hbL := Same.seqT sL hb9
    clear A9 B9 hb9 sL
    refine for_list (K := K) (a := r) (xs := xs) (fun i σ H' => ∃ (d c : V) (v : Option V), σ = [some (.ref s), some (.ref a), some (.int (n : Int)), some (.ref b), some (.ref ra), some (.ref rb), some (.int side), some d, some c, v] ∧ Same HL H' ∧
        OptV K H' d (((linesF n).take i).find? (partsL one other)) ∧ OptV K H' c (((linesF n).take i).find? (movesL one)))
      ⟨.non, .non, Option.none, rfl, Same.refl HL, rfl, rfl⟩ (fun i σ H' _ h => ?_) (fun i x σ H' hx h => ?_) (fun σ H' h => ?_)
    · obtain ⟨d, c, v, _, s1, _⟩ := h
      exact s1.seq hr2
    · obtain ⟨d, c, v, rfl, s1, hd, hc⟩ := h
      obtain ⟨l, hl, t, rfl, ht⟩ := pair_get hA hx
      have hln : Ln n l := ⟨hn, List.mem_of_getElem? hl⟩
      have ht1 : FT H' t (vi l) := ht.keep s1
      -- if due is None and done(line, one) != done(line, other): due = line
      refine ⟨fun σ H2 => ∃ d : V, σ = [some (.ref s), some (.ref a), some (.int (n : Int)), some (.ref b), some (.ref ra), some (.ref rb), some (.int side), some d, some c, some (.ref t)] ∧ Same H' H2 ∧ OptV K H2 d (((linesF n).take (i + 1)).find? (partsL one other)), ?_, fun σ H2 h => ?_⟩
      · refine ⟨_, rfl, rfl, _, rfl, ?_⟩
        rw [opt_none hd]
        cases hf : ((linesF n).take i).find? (partsL one other) with
        | some z =>
          rw [hf] at hd
          refine iteF (iteF ⟨d, rfl, Same.refl H', ?_⟩)
          rw [find_succ hl, hf]
          exact hd
        | none =>
          rw [hf] at hd
          refine iteT ?_
          refine ⟨_, rfl, _, rfl, t, ra, n, l, one, rfl, ht1, hln, (AL.keep s1).1, rA, fun H2 u1 s2 hu1 => ?_⟩
          refine ⟨_, rfl, _, rfl, t, rb, n, l, other, rfl, ht1.keep s2, hln, ((BL.keep s1).keep s2).1, rB, fun H3 u2 s3 hu2 => ?_⟩
          refine ⟨.tuple ((doneL l one).map PyData.int), .tuple ((doneL l other).map PyData.int), .tup (hu1.keep s3).seq (dp_ints _), .tup hu2.seq (dp_ints _), shaped_tup _, shaped_tup _, _, rfl, ?_⟩
          rw [eqv_tup]
          cases hp : partsL one other l with
          | true =>
            have hp2 : (!decide (doneL l one = doneL l other)) = true := hp
            rw [hp2]
            refine iteT ⟨_, rfl, .ref t, rfl, s2.trans s3, ?_⟩
            rw [find_succ hl, hf, if_pos hp]
            exact ⟨t, rfl, ((ht1.keep s2).keep s3).seq⟩
          | false =>
            have hp2 : (!decide (doneL l one = doneL l other)) = false := hp
            rw [hp2]
            refine iteF ⟨d, rfl, s2.trans s3, ?_⟩
            rw [find_succ hl, hf, if_neg (by rw [hp]; decide)]
            exact OptV.keep (s2.trans s3) hd
      · obtain ⟨d, rfl, s2, hd⟩ := h
        have hc2 := OptV.keep s2 hc
        have ht2 := ht1.keep s2
        have s12 := s1.trans s2
        -- if calm is None and wrong(done(line, one)) != []: calm = line
        refine ⟨_, rfl, rfl, _, rfl, ?_⟩
        rw [opt_none hc2]
        cases hf : ((linesF n).take i).find? (movesL one) with
        | some z =>
          rw [hf] at hc2
          refine iteF (iteF ⟨d, c, _, rfl, s12, hd, ?_⟩)
          rw [find_succ hl, hf]
          exact hc2
        | none =>
          rw [hf] at hc2
          refine iteT ?_
          refine ⟨_, rfl, _, rfl, t, ra, n, l, one, rfl, ht2, hln, (AL.keep s12).1, rA, fun H3 u1 s3 hu1 => ?_⟩
          have hld := done_ln hln rA
          rw [done_eq hln rA] at hld
          refine ⟨u1, _, rfl, hu1.seq, by rw [ln_len hld]; omega, fun H4 u2 ys s4 hu2 hys he => ?_⟩
          refine ⟨Nat.zero_le _, fun z nz => ?_⟩
          have s5 := Same.new (o := .lst []) nz
          obtain ⟨ds, e1, e2, e3, e4⟩ := pairs_dp (K := K) (H := upd H4 z (.lst [])) (ys := ys) fun y hy => (hys y hy).keep s5
          refine ⟨.list ds, .list [], .lst (s5.seq hu2) e1, .lst (.inl (.inl upd_same)) .nil, shaped_pairs e2 e3, shaped_lst [], _, rfl, ?_⟩
          rw [eqv_nil, e4, he]
          have s35 := (s3.trans s4).trans s5
          cases hp : movesL one l with
          | true =>
            have hp2 : (!(wrongL (doneL l one)).isEmpty) = true := hp
            rw [hp2]
            refine iteT ⟨_, rfl, d, .ref t, _, rfl, s12.trans s35, OptV.keep s35 hd, ?_⟩
            rw [find_succ hl, hf, if_pos hp]
            exact ⟨t, rfl, (ht2.keep s35).seq⟩
          | false =>
            have hp2 : (!(wrongL (doneL l one)).isEmpty) = false := hp
            rw [hp2]
            refine iteF ⟨d, c, _, rfl, s12.trans s35, OptV.keep s35 hd, ?_⟩
            rw [find_succ hl, hf, if_neg (by rw [hp]; decide)]
            exact OptV.keep s35 hc2
    · obtain ⟨d, c, v, rfl, s1, hd, hc⟩ := h
      rw [hA.len, List.take_length, tell_eq hn rA rB] at hd
      rw [hA.len, List.take_length, rest_eq hn rA] at hc
      have A1 := AL.keep s1
      have B1 := BL.keep s1
      have hb1 := Same.seqT s1 hbL
      clear AL BL hbL s1 hA hr2
      have ti : ∀ l, tellF n one other = some l → l ∈ linesF n := fun l e => List.mem_of_find?_eq_some e
      have ri : ∀ l, restF n one = some l → l ∈ linesF n := fun l e => List.mem_of_find?_eq_some e
      -- telling and does_same
      refine ⟨_, rfl, _, rfl, _, rfl, n, ra, rb, one, other, rfl, hn, A1, B1, fun H2 u s2 hu => ?_⟩
      refine ⟨_, rfl, u, d, rfl, opt_twins alike_ints hn ti hu (OptV.keep s2 hd), fun H3 s3 => ⟨true, rfl, iteF ?_⟩⟩
      have s23 := s2.trans s3
      refine ⟨_, rfl, _, rfl, _, rfl, n, ra, rb, one, other, rfl, hn, A1.keep s23, B1.keep s23, fun H4 s4 => ?_⟩
      refine ⟨_, rfl, rfl, _, _, rfl, .inr (.inl ⟨(tellF n one other).isNone, rfl, ?_⟩), fun H5 s5 => ⟨true, rfl, iteF ?_⟩⟩
      · show V.bl (decide (d = .non)) = _
        rw [opt_none hd]
      have s25 := (s23.trans s4).trans s5
      have A5 := A1.keep s25
      have B5 := B1.keep s25
      have hc5 := OptV.keep s25 hc
      have hb5 := Same.seqT s25 hb1
      clear A1 B1 hb1 hc hd hu s2 s3 s4 s5 s23 s25
      -- restless_line and does_rest
      refine ⟨_, rfl, _, rfl, n, ra, one, rfl, hn, A5, fun H6 u s6 hu => ?_⟩
      refine ⟨_, rfl, u, c, rfl, opt_twins alike_ints hn ri hu (OptV.keep s6 hc5), fun H7 s7 => ⟨true, rfl, iteF ?_⟩⟩
      have s67 := s6.trans s7
      refine ⟨_, rfl, _, rfl, n, ra, one, rfl, hn, A5.keep s67, fun H8 s8 => ?_⟩
      refine ⟨_, rfl, rfl, _, _, rfl, .inr (.inl ⟨(restF n one).isNone, rfl, ?_⟩), fun H9 s9 => ⟨true, rfl, iteF ?_⟩⟩
      · show V.bl (decide (c = .non)) = _
        rw [opt_none hc5]
      have s69 := (s67.trans s8).trans s9
      have B9 := B5.keep s69
      have hb9 := Same.seqT s69 hb5
      clear A5 B5 hb5 hc5 hu s6 s7 s8 s9 s67 s69
      -- the reversed row
      have rr : ∀ (H' : Hp) (p : Addr), H' p = Option.none → RowAt K (upd H' p (.tup (vi (rng n)).reverse)) n p (rng n).reverse := fun H' p _ => ⟨by rw [← vi_rev]; exact .inl (.inl upd_same), row_rev, by rw [List.length_reverse, rng_len]; omega⟩
      refine ⟨_, rfl, _, rfl, b, _, rfl, hb9, fun p np => ?_⟩
      have sp := Same.new (o := .tup (vi (rng n)).reverse) np
      refine ⟨n, p, (rng n).reverse, rfl, hn, rr _ p np, fun H10 s10 => ?_⟩
      rw [rest_all hn]
      refine ⟨true, true, rfl, rfl, _, rfl, ?_⟩
      rw [decide_eq_true rfl]
      have s11 := sp.trans s10
      have hb11 := Same.seqT s11 hb9
      have B11 := B9.keep s11
      refine iteT ⟨_, rfl, _, rfl, b, _, rfl, hb11, fun p1 np1 => ?_⟩
      have sq1 := Same.new (o := .tup (vi (rng n)).reverse) np1
      have R1 := rr _ p1 np1
      refine ⟨_, rfl, b, _, rfl, Same.seqT sq1 hb11, fun p2 np2 => ?_⟩
      have sq2 := Same.new (o := .tup (vi (rng n)).reverse) np2
      have R2 := rr _ p2 np2
      refine ⟨_, rfl, cat_any R2.1 (Same.seqT sq2 (Same.seqT sq1 B11.1)) (by rw [List.length_map, List.length_map, List.length_reverse, rng_len]; omega) fun H12 p3 s12 h12 => ?_⟩
      rw [← vi_app] at h12
      refine ⟨n, p1, p3, (rng n).reverse, (rng n).reverse ++ other, rfl, hn, (R1.keep sq2).keep s12, ⟨h12, row_app row_rev rB, by rw [List.length_append, List.length_reverse, rng_len]; omega⟩, fun H13 s13 => ?_⟩
      rw [same_all hn rB]
      refine ⟨true, true, rfl, rfl, ?_⟩
      rw [decide_eq_true rfl]
      exact k H13
end
end Ov
/-! What the top has written; the end. -/
namespace Ov
open PySem PySem.Spec PyProof.Rows L2 OvR
section
variable {K : PySem.W.Frag} {h : Heap} {mg : Str → Option Value} {f : Addr} {od an : Option Addr} {sl : Array (Option Value)} {oc kV dc pm cd ct : Value}
theorem def_mk {x : Str} {st : Stmt} {ps : List Str} (X : K.In h) (G : h.Ns mainGlobals mg) (a : PySem.W.nsIn K mainGlobals x = some (some (.ref f)))
    (l : K.lookup f = some ⟨oc, od, .func (PySem.W.fnOf x x (defArgs st) (defBody st) (defScope st) .none kV dc pm an cd ct), sl⟩) (c : PySem.W.codeIn K cd x = true) (k : PySem.W.keepIn K (.ref f) = true)
    (hb : ∀ (kV doc pm : Value) (an : Option Addr) (cdv ct : Value) (us : List Value), us.length = ps.length → bindArgs (PySem.W.fnOf x x (defArgs st) (defBody st) (defScope st) .none kV doc pm an cdv ct) ⟨us, []⟩ = pure (ps.zip us)) : Def K mg x st ps :=
  have F := fun_mk (st := st) l c k
  ⟨f, _, PySem.W.mg_of X G a, F.binds hb, F⟩
theorem mk_0 (X : K.In h) (G : h.Ns mainGlobals mg) (a : PySem.W.nsIn K mainGlobals "is_integer" = some (some (.ref f)))
    (l : K.lookup f = some ⟨oc, od, .func (PySem.W.fnOf "is_integer" "is_integer" (defArgs sInteger) (defBody sInteger) (defScope sInteger) .none kV dc pm an cd ct), sl⟩) (c : PySem.W.codeIn K cd "is_integer" = true) (k : PySem.W.keepIn K (.ref f) = true) :
    Def K mg "is_integer" sInteger ["value"] := def_mk X G a l c k fun _ _ _ _ _ _ us hl => match us, hl with | [_], _ => rfl
theorem mk_1 (X : K.In h) (G : h.Ns mainGlobals mg) (a : PySem.W.nsIn K mainGlobals "is_in" = some (some (.ref f)))
    (l : K.lookup f = some ⟨oc, od, .func (PySem.W.fnOf "is_in" "is_in" (defArgs sIn) (defBody sIn) (defScope sIn) .none kV dc pm an cd ct), sl⟩) (c : PySem.W.codeIn K cd "is_in" = true) (k : PySem.W.keepIn K (.ref f) = true) :
    Def K mg "is_in" sIn ["value", "least", "most"] := def_mk X G a l c k fun _ _ _ _ _ _ us hl => match us, hl with | [_, _, _], _ => rfl
theorem mk_2 (X : K.In h) (G : h.Ns mainGlobals mg) (a : PySem.W.nsIn K mainGlobals "is_list" = some (some (.ref f)))
    (l : K.lookup f = some ⟨oc, od, .func (PySem.W.fnOf "is_list" "is_list" (defArgs sList) (defBody sList) (defScope sList) .none kV dc pm an cd ct), sl⟩) (c : PySem.W.codeIn K cd "is_list" = true) (k : PySem.W.keepIn K (.ref f) = true) :
    Def K mg "is_list" sList ["value", "least", "most"] := def_mk X G a l c k fun _ _ _ _ _ _ us hl => match us, hl with | [_, _, _], _ => rfl
theorem mk_3 (X : K.In h) (G : h.Ns mainGlobals mg) (a : PySem.W.nsIn K mainGlobals "need_size" = some (some (.ref f)))
    (l : K.lookup f = some ⟨oc, od, .func (PySem.W.fnOf "need_size" "need_size" (defArgs sSize) (defBody sSize) (defScope sSize) .none kV dc pm an cd ct), sl⟩) (c : PySem.W.codeIn K cd "need_size" = true) (k : PySem.W.keepIn K (.ref f) = true) :
    Def K mg "need_size" sSize ["size"] := def_mk X G a l c k fun _ _ _ _ _ _ us hl => match us, hl with | [_], _ => rfl
theorem mk_4 (X : K.In h) (G : h.Ns mainGlobals mg) (a : PySem.W.nsIn K mainGlobals "factorial" = some (some (.ref f)))
    (l : K.lookup f = some ⟨oc, od, .func (PySem.W.fnOf "factorial" "factorial" (defArgs sFac) (defBody sFac) (defScope sFac) .none kV dc pm an cd ct), sl⟩) (c : PySem.W.codeIn K cd "factorial" = true) (k : PySem.W.keepIn K (.ref f) = true) :
    Def K mg "factorial" sFac ["many"] := def_mk X G a l c k fun _ _ _ _ _ _ us hl => match us, hl with | [_], _ => rfl
theorem mk_5 (X : K.In h) (G : h.Ns mainGlobals mg) (a : PySem.W.nsIn K mainGlobals "all_lines" = some (some (.ref f)))
    (l : K.lookup f = some ⟨oc, od, .func (PySem.W.fnOf "all_lines" "all_lines" (defArgs sLines) (defBody sLines) (defScope sLines) .none kV dc pm an cd ct), sl⟩) (c : PySem.W.codeIn K cd "all_lines" = true) (k : PySem.W.keepIn K (.ref f) = true) :
    Def K mg "all_lines" sLines ["size"] := def_mk X G a l c k fun _ _ _ _ _ _ us hl => match us, hl with | [_], _ => rfl
theorem mk_6 (X : K.In h) (G : h.Ns mainGlobals mg) (a : PySem.W.nsIn K mainGlobals "need_calls" = some (some (.ref f)))
    (l : K.lookup f = some ⟨oc, od, .func (PySem.W.fnOf "need_calls" "need_calls" (defArgs sNeedC) (defBody sNeedC) (defScope sNeedC) .none kV dc pm an cd ct), sl⟩) (c : PySem.W.codeIn K cd "need_calls" = true) (k : PySem.W.keepIn K (.ref f) = true) :
    Def K mg "need_calls" sNeedC ["line", "calls"] := def_mk X G a l c k fun _ _ _ _ _ _ us hl => match us, hl with | [_, _], _ => rfl
theorem mk_7 (X : K.In h) (G : h.Ns mainGlobals mg) (a : PySem.W.nsIn K mainGlobals "goal_in" = some (some (.ref f)))
    (l : K.lookup f = some ⟨oc, od, .func (PySem.W.fnOf "goal_in" "goal_in" (defArgs sGoal) (defBody sGoal) (defScope sGoal) .none kV dc pm an cd ct), sl⟩) (c : PySem.W.codeIn K cd "goal_in" = true) (k : PySem.W.keepIn K (.ref f) = true) :
    Def K mg "goal_in" sGoal ["line", "person"] := def_mk X G a l c k fun _ _ _ _ _ _ us hl => match us, hl with | [_, _], _ => rfl
theorem mk_8 (X : K.In h) (G : h.Ns mainGlobals mg) (a : PySem.W.nsIn K mainGlobals "call_in" = some (some (.ref f)))
    (l : K.lookup f = some ⟨oc, od, .func (PySem.W.fnOf "call_in" "call_in" (defArgs sCall) (defBody sCall) (defScope sCall) .none kV dc pm an cd ct), sl⟩) (c : PySem.W.codeIn K cd "call_in" = true) (k : PySem.W.keepIn K (.ref f) = true) :
    Def K mg "call_in" sCall ["line", "person"] := def_mk X G a l c k fun _ _ _ _ _ _ us hl => match us, hl with | [_, _], _ => rfl
theorem mk_9 (X : K.In h) (G : h.Ns mainGlobals mg) (a : PySem.W.nsIn K mainGlobals "movers_in" = some (some (.ref f)))
    (l : K.lookup f = some ⟨oc, od, .func (PySem.W.fnOf "movers_in" "movers_in" (defArgs sMov) (defBody sMov) (defScope sMov) .none kV dc pm an cd ct), sl⟩) (c : PySem.W.codeIn K cd "movers_in" = true) (k : PySem.W.keepIn K (.ref f) = true) :
    Def K mg "movers_in" sMov ["line"] := def_mk X G a l c k fun _ _ _ _ _ _ us hl => match us, hl with | [_], _ => rfl
theorem mk_10 (X : K.In h) (G : h.Ns mainGlobals mg) (a : PySem.W.nsIn K mainGlobals "story_in" = some (some (.ref f)))
    (l : K.lookup f = some ⟨oc, od, .func (PySem.W.fnOf "story_in" "story_in" (defArgs sStory) (defBody sStory) (defScope sStory) .none kV dc pm an cd ct), sl⟩) (c : PySem.W.codeIn K cd "story_in" = true) (k : PySem.W.keepIn K (.ref f) = true) :
    Def K mg "story_in" sStory ["line", "calls"] := def_mk X G a l c k fun _ _ _ _ _ _ us hl => match us, hl with | [_, _], _ => rfl
theorem mk_11 (X : K.In h) (G : h.Ns mainGlobals mg) (a : PySem.W.nsIn K mainGlobals "need_rows" = some (some (.ref f)))
    (l : K.lookup f = some ⟨oc, od, .func (PySem.W.fnOf "need_rows" "need_rows" (defArgs sRows) (defBody sRows) (defScope sRows) .none kV dc pm an cd ct), sl⟩) (c : PySem.W.codeIn K cd "need_rows" = true) (k : PySem.W.keepIn K (.ref f) = true) :
    Def K mg "need_rows" sRows ["size", "one", "other"] := def_mk X G a l c k fun _ _ _ _ _ _ us hl => match us, hl with | [_, _, _], _ => rfl
theorem mk_12 (X : K.In h) (G : h.Ns mainGlobals mg) (a : PySem.W.nsIn K mainGlobals "telling" = some (some (.ref f)))
    (l : K.lookup f = some ⟨oc, od, .func (PySem.W.fnOf "telling" "telling" (defArgs sTell) (defBody sTell) (defScope sTell) .none kV dc pm an cd ct), sl⟩) (c : PySem.W.codeIn K cd "telling" = true) (k : PySem.W.keepIn K (.ref f) = true) :
    Def K mg "telling" sTell ["size", "one", "other"] := def_mk X G a l c k fun _ _ _ _ _ _ us hl => match us, hl with | [_, _, _], _ => rfl
theorem mk_13 (X : K.In h) (G : h.Ns mainGlobals mg) (a : PySem.W.nsIn K mainGlobals "does_same" = some (some (.ref f)))
    (l : K.lookup f = some ⟨oc, od, .func (PySem.W.fnOf "does_same" "does_same" (defArgs sSame) (defBody sSame) (defScope sSame) .none kV dc pm an cd ct), sl⟩) (c : PySem.W.codeIn K cd "does_same" = true) (k : PySem.W.keepIn K (.ref f) = true) :
    Def K mg "does_same" sSame ["size", "one", "other"] := def_mk X G a l c k fun _ _ _ _ _ _ us hl => match us, hl with | [_, _, _], _ => rfl
theorem mk_14 (X : K.In h) (G : h.Ns mainGlobals mg) (a : PySem.W.nsIn K mainGlobals "does_rest" = some (some (.ref f)))
    (l : K.lookup f = some ⟨oc, od, .func (PySem.W.fnOf "does_rest" "does_rest" (defArgs sRest) (defBody sRest) (defScope sRest) .none kV dc pm an cd ct), sl⟩) (c : PySem.W.codeIn K cd "does_rest" = true) (k : PySem.W.keepIn K (.ref f) = true) :
    Def K mg "does_rest" sRest ["size", "calls"] := def_mk X G a l c k fun _ _ _ _ _ _ us hl => match us, hl with | [_, _], _ => rfl
theorem mk_15 (X : K.In h) (G : h.Ns mainGlobals mg) (a : PySem.W.nsIn K mainGlobals "restless_line" = some (some (.ref f)))
    (l : K.lookup f = some ⟨oc, od, .func (PySem.W.fnOf "restless_line" "restless_line" (defArgs sLess) (defBody sLess) (defScope sLess) .none kV dc pm an cd ct), sl⟩) (c : PySem.W.codeIn K cd "restless_line" = true) (k : PySem.W.keepIn K (.ref f) = true) :
    Def K mg "restless_line" sLess ["size", "calls"] := def_mk X G a l c k fun _ _ _ _ _ _ us hl => match us, hl with | [_, _], _ => rfl
theorem mk_16 (X : K.In h) (G : h.Ns mainGlobals mg) (a : PySem.W.nsIn K mainGlobals "_law_taken" = some (some (.ref f)))
    (l : K.lookup f = some ⟨oc, od, .func (PySem.W.fnOf "_law_taken" "_law_taken" (defArgs sTaken) (defBody sTaken) (defScope sTaken) .none kV dc pm an cd ct), sl⟩) (c : PySem.W.codeIn K cd "_law_taken" = true) (k : PySem.W.keepIn K (.ref f) = true) :
    Def K mg "_law_taken" sTaken ["_law_row_here", "_law_many"] := def_mk X G a l c k fun _ _ _ _ _ _ us hl => match us, hl with | [_, _], _ => rfl
theorem mk_17 (X : K.In h) (G : h.Ns mainGlobals mg) (a : PySem.W.nsIn K mainGlobals "_law_alike" = some (some (.ref f)))
    (l : K.lookup f = some ⟨oc, od, .func (PySem.W.fnOf "_law_alike" "_law_alike" (defArgs sAlike) (defBody sAlike) (defScope sAlike) .none kV dc pm an cd ct), sl⟩) (c : PySem.W.codeIn K cd "_law_alike" = true) (k : PySem.W.keepIn K (.ref f) = true) :
    Def K mg "_law_alike" sAlike ["_law_found", "_law_due"] := def_mk X G a l c k fun _ _ _ _ _ _ us hl => match us, hl with | [_, _], _ => rfl
theorem mk_18 (X : K.In h) (G : h.Ns mainGlobals mg) (a : PySem.W.nsIn K mainGlobals "_law_row" = some (some (.ref f)))
    (l : K.lookup f = some ⟨oc, od, .func (PySem.W.fnOf "_law_row" "_law_row" (defArgs sLRow) (defBody sLRow) (defScope sLRow) .none kV dc pm an cd ct), sl⟩) (c : PySem.W.codeIn K cd "_law_row" = true) (k : PySem.W.keepIn K (.ref f) = true) :
    Def K mg "_law_row" sLRow ["_law_row_here", "_law_line", "_law_many"] := def_mk X G a l c k fun _ _ _ _ _ _ us hl => match us, hl with | [_, _, _], _ => rfl
theorem mk_19 (X : K.In h) (G : h.Ns mainGlobals mg) (a : PySem.W.nsIn K mainGlobals "_law_call" = some (some (.ref f)))
    (l : K.lookup f = some ⟨oc, od, .func (PySem.W.fnOf "_law_call" "_law_call" (defArgs sLCall) (defBody sLCall) (defScope sLCall) .none kV dc pm an cd ct), sl⟩) (c : PySem.W.codeIn K cd "_law_call" = true) (k : PySem.W.keepIn K (.ref f) = true) :
    Def K mg "_law_call" sLCall ["_law_line", "_law_person"] := def_mk X G a l c k fun _ _ _ _ _ _ us hl => match us, hl with | [_, _], _ => rfl
theorem mk_20 (X : K.In h) (G : h.Ns mainGlobals mg) (a : PySem.W.nsIn K mainGlobals "_law_done" = some (some (.ref f)))
    (l : K.lookup f = some ⟨oc, od, .func (PySem.W.fnOf "_law_done" "_law_done" (defArgs sLDone) (defBody sLDone) (defScope sLDone) .none kV dc pm an cd ct), sl⟩) (c : PySem.W.codeIn K cd "_law_done" = true) (k : PySem.W.keepIn K (.ref f) = true) :
    Def K mg "_law_done" sLDone ["_law_line", "_law_calls"] := def_mk X G a l c k fun _ _ _ _ _ _ us hl => match us, hl with | [_, _], _ => rfl
theorem mk_21 (X : K.In h) (G : h.Ns mainGlobals mg) (a : PySem.W.nsIn K mainGlobals "_law_wrong" = some (some (.ref f)))
    (l : K.lookup f = some ⟨oc, od, .func (PySem.W.fnOf "_law_wrong" "_law_wrong" (defArgs sLWrong) (defBody sLWrong) (defScope sLWrong) .none kV dc pm an cd ct), sl⟩) (c : PySem.W.codeIn K cd "_law_wrong" = true) (k : PySem.W.keepIn K (.ref f) = true) :
    Def K mg "_law_wrong" sLWrong ["_law_line"] := def_mk X G a l c k fun _ _ _ _ _ _ us hl => match us, hl with | [_], _ => rfl
theorem mk_22 (X : K.In h) (G : h.Ns mainGlobals mg) (a : PySem.W.nsIn K mainGlobals "_law_lines" = some (some (.ref f)))
    (l : K.lookup f = some ⟨oc, od, .func (PySem.W.fnOf "_law_lines" "_law_lines" (defArgs sLLines) (defBody sLLines) (defScope sLLines) .none kV dc pm an cd ct), sl⟩) (c : PySem.W.codeIn K cd "_law_lines" = true) (k : PySem.W.keepIn K (.ref f) = true) :
    Def K mg "_law_lines" sLLines ["_law_size"] := def_mk X G a l c k fun _ _ _ _ _ _ us hl => match us, hl with | [_], _ => rfl
theorem txt_mk {t1 t2 t3 : Tok} (X : K.In h) (G : h.Ns mainGlobals mg)
    (n0 : PySem.W.nsIn K mainGlobals "isinstance" = some Option.none) (n1 : PySem.W.nsIn K mainGlobals "int" = some Option.none) (n2 : PySem.W.nsIn K mainGlobals "bool" = some Option.none) (n3 : PySem.W.nsIn K mainGlobals "tuple" = some Option.none) (n4 : PySem.W.nsIn K mainGlobals "list" = some Option.none) (n5 : PySem.W.nsIn K mainGlobals "str" = some Option.none) (n6 : PySem.W.nsIn K mainGlobals "len" = some Option.none) (n7 : PySem.W.nsIn K mainGlobals "range" = some Option.none) (n8 : PySem.W.nsIn K mainGlobals "enumerate" = some Option.none) (n9 : PySem.W.nsIn K mainGlobals "sorted" = some Option.none) (n10 : PySem.W.nsIn K mainGlobals "all" = some Option.none)
    (c0 : PySem.W.nsIn K mainGlobals "MOST_PEOPLE" = some (some (.int 8 t1))) (c1 : PySem.W.nsIn K mainGlobals "MOST_LINES" = some (some (.int 5040 t2))) (c2 : PySem.W.nsIn K mainGlobals "MOST_CALLS" = some (some (.int 60 t3))) : Txt mg :=
  ⟨PySem.W.mg_none_of X G n0, PySem.W.mg_none_of X G n1, PySem.W.mg_none_of X G n2, PySem.W.mg_none_of X G n3, PySem.W.mg_none_of X G n4, PySem.W.mg_none_of X G n5, PySem.W.mg_none_of X G n6, PySem.W.mg_none_of X G n7, PySem.W.mg_none_of X G n8, PySem.W.mg_none_of X G n9, PySem.W.mg_none_of X G n10, ⟨_, PySem.W.mg_of X G c0⟩, ⟨_, PySem.W.mg_of X G c1⟩, ⟨_, PySem.W.mg_of X G c2⟩⟩
theorem law_mk {l : PySem.W.OpenLaw} {w : World} {fa : Addr} (X : K.In h) (G : h.Ns mainGlobals mg) (hfa : mg "law" = some (.ref fa)) (a : PySem.W.nsIn K mainGlobals "law" = some (some (.ref f)))
    (lk : K.lookup f = some ⟨oc, od, .func (PySem.W.fnOf "law" "law" (defArgs sLaw) (defBody sLaw) (defScope sLaw) .none kV dc pm an cd ct), sl⟩) (c : PySem.W.codeIn K cd "law" = true) (k : PySem.W.keepIn K (.ref f) = true) (T : Txt mg)
    (D0 : Def K mg "is_integer" sInteger ["value"]) (D1 : Def K mg "is_in" sIn ["value", "least", "most"]) (D2 : Def K mg "is_list" sList ["value", "least", "most"]) (D3 : Def K mg "need_size" sSize ["size"]) (D4 : Def K mg "factorial" sFac ["many"]) (D5 : Def K mg "all_lines" sLines ["size"]) (D6 : Def K mg "need_calls" sNeedC ["line", "calls"]) (D7 : Def K mg "goal_in" sGoal ["line", "person"]) (D8 : Def K mg "call_in" sCall ["line", "person"]) (D9 : Def K mg "movers_in" sMov ["line"]) (D10 : Def K mg "story_in" sStory ["line", "calls"]) (D11 : Def K mg "need_rows" sRows ["size", "one", "other"]) (D12 : Def K mg "telling" sTell ["size", "one", "other"]) (D13 : Def K mg "does_same" sSame ["size", "one", "other"]) (D14 : Def K mg "does_rest" sRest ["size", "calls"]) (D15 : Def K mg "restless_line" sLess ["size", "calls"]) (D16 : Def K mg "_law_taken" sTaken ["_law_row_here", "_law_many"]) (D17 : Def K mg "_law_alike" sAlike ["_law_found", "_law_due"]) (D18 : Def K mg "_law_row" sLRow ["_law_row_here", "_law_line", "_law_many"]) (D19 : Def K mg "_law_call" sLCall ["_law_line", "_law_person"]) (D20 : Def K mg "_law_done" sLDone ["_law_line", "_law_calls"]) (D21 : Def K mg "_law_wrong" sLWrong ["_law_line"]) (D22 : Def K mg "_law_lines" sLLines ["_law_size"]) :
    ∃ fd : FuncData, (∀ (s : Shared) (v : Value), BindsTo s fd ⟨[v], []⟩ [("_law_script", v)]) ∧ ∀ base : Heap, K.In base → base.Ns mainGlobals mg → FnOk l.prog w K mg base CX0 6 fa fd ["_law_script"] (spLaw K) := by
  have e := hfa.symm.trans (PySem.W.mg_of X G a)
  cases e
  refine ⟨PySem.W.fnOf "law" "law" (defArgs sLaw) (defBody sLaw) (defScope sLaw) .none kV dc pm an cd ct, fun s v => .of_eq rfl, fun base _ _ => ?_⟩
  have g0 : Has l.prog w K mg base 1 "is_integer" ["value"] spInteger := has_integer D0 T
  have g1 := has_in D1 g0
  have g2 : Has l.prog w K mg base 1 "is_list" ["value", "least", "most"] (spList K) := has_list D2 T
  have g3 := has_size D3 T g1
  have g4 : Has l.prog w K mg base 1 "factorial" ["many"] spFac := has_fac D4 T
  have g5 : Has l.prog w K mg base 1 "all_lines" ["size"] (spLines K) := has_lines D5 T
  have g6 := has_needC D6 T g2 g1
  have g7 : Has l.prog w K mg base 1 "goal_in" ["line", "person"] spGoal := has_goal D7
  have g8 := has_call D8 g7
  have g9 : Has l.prog w K mg base 1 "movers_in" ["line"] (spMov K) := has_mov D9 T
  have g10 : Has l.prog w K mg base 3 "story_in" ["line", "calls"] (spStory K) := has_story D10 g8
  have g11 := has_rows D11 T g3 g6 g4
  have A : Asks l.prog w K mg base := ⟨g11, g5, g10, g9⟩
  have g16 : Has l.prog w K mg base 1 "_law_taken" ["_law_row_here", "_law_many"] (spTaken K) := has_taken D16 T
  have g17 : Has l.prog w K mg base 2 "_law_alike" ["_law_found", "_law_due"] (spAlike K (spAlike K spNo)) := has_alike D17 T (has_alike D17 T (has_no D17))
  have g19 : Has l.prog w K mg base 1 "_law_call" ["_law_line", "_law_person"] spLCall := has_lcall D19 T
  have U : Uses l.prog w K mg base := ⟨g16, has_lrow D18 T g16, has_ldone D20 g19, has_lwrong D21 T, has_llines D22 T, g17, has_tell D12 A, has_same D13 A, has_rest D14 T A, has_less D15 A⟩
  exact ok_law (fun_mk (st := sLaw) lk c k) T U
end
theorem walk {l : PySem.W.OpenLaw} {q : Program} {loose : List Str} {XP : (Str → Option Value) → Heap → Prop} {YP : World → Heap → Prop} {d : DefRec} {K : Params → PySem.W.Frag} (hn : l.most = some 63) (hdf : d.params.defaults = [])
    (hY : ∀ (w : World) (h : Heap), YP w h → (K w.params).In h)
    (F : ∀ (w : World) (mg : Str → Option Value) (fa : Addr) (h : Heap), (K w.params).In h → h.Ns mainGlobals mg → mg d.name = some (.ref fa) →
      ∃ fd : FuncData, (∀ (s : Shared) (u : Value), BindsTo s fd ⟨[u], []⟩ [("_law_script", u)]) ∧ ∀ base : Heap, (K w.params).In base → base.Ns mainGlobals mg → FnOk l.prog w (K w.params) mg base CX0 6 fa fd ["_law_script"] (spLaw (K w.params))) :
    PySem.W.WalkO q loose XP YP l.row.toRowW d [] (fun f vs => PySem.call f vs) :=
  L2.walk_of (n := 63) (k := 6) (x := "_law_script") (CX := fun _ => CX0) (sp := fun w => spLaw (K w.params)) hn (by decide) hdf ⟨rfl, by decide, by decide⟩ hY F (fun _ _ a ns _ _ hS => ⟨a, ns, rfl, hS, fun _ => rfl⟩) fun _ _ _ _ _ z => z
end Ov

open PySem PySem.W PyProof.Rows
set_option maxRecDepth 100000 in
set_option maxHeartbeats 0 in
theorem PySem.Challenge.cw_overtake_k29_whole_rows_that_do_the_same_holds : PySem.Challenge.rw_overtake_k29_whole_rows_that_do_the_same.Holds := by
  w_on; o_law; k_head; (case hw => w_witness2)
  k_fill
  refine Ov.walk (l := PySem.Challenge.rw_overtake_k29_whole_rows_that_do_the_same) rfl rfl (fun w h Y => PySem.W.kIn_of Y) ?F
  case F =>
    intro w mg fa h KX G hmg
    have d0 := by
      refine' Ov.mk_0 KX G ?a ?l ?c ?k
      (case a => k_is); (case l => k_is); (case c => k_is); (case k => k_is)
    have d1 := by
      refine' Ov.mk_1 KX G ?a ?l ?c ?k
      (case a => k_is); (case l => k_is); (case c => k_is); (case k => k_is)
    have d2 := by
      refine' Ov.mk_2 KX G ?a ?l ?c ?k
      (case a => k_is); (case l => k_is); (case c => k_is); (case k => k_is)
    have d3 := by
      refine' Ov.mk_3 KX G ?a ?l ?c ?k
      (case a => k_is); (case l => k_is); (case c => k_is); (case k => k_is)
    have d4 := by
      refine' Ov.mk_4 KX G ?a ?l ?c ?k
      (case a => k_is); (case l => k_is); (case c => k_is); (case k => k_is)
    have d5 := by
      refine' Ov.mk_5 KX G ?a ?l ?c ?k
      (case a => k_is); (case l => k_is); (case c => k_is); (case k => k_is)
    have d6 := by
      refine' Ov.mk_6 KX G ?a ?l ?c ?k
      (case a => k_is); (case l => k_is); (case c => k_is); (case k => k_is)
    have d7 := by
      refine' Ov.mk_7 KX G ?a ?l ?c ?k
      (case a => k_is); (case l => k_is); (case c => k_is); (case k => k_is)
    have d8 := by
      refine' Ov.mk_8 KX G ?a ?l ?c ?k
      (case a => k_is); (case l => k_is); (case c => k_is); (case k => k_is)
    have d9 := by
      refine' Ov.mk_9 KX G ?a ?l ?c ?k
      (case a => k_is); (case l => k_is); (case c => k_is); (case k => k_is)
    have d10 := by
      refine' Ov.mk_10 KX G ?a ?l ?c ?k
      (case a => k_is); (case l => k_is); (case c => k_is); (case k => k_is)
    have d11 := by
      refine' Ov.mk_11 KX G ?a ?l ?c ?k
      (case a => k_is); (case l => k_is); (case c => k_is); (case k => k_is)
    have d12 := by
      refine' Ov.mk_12 KX G ?a ?l ?c ?k
      (case a => k_is); (case l => k_is); (case c => k_is); (case k => k_is)
    have d13 := by
      refine' Ov.mk_13 KX G ?a ?l ?c ?k
      (case a => k_is); (case l => k_is); (case c => k_is); (case k => k_is)
    have d14 := by
      refine' Ov.mk_14 KX G ?a ?l ?c ?k
      (case a => k_is); (case l => k_is); (case c => k_is); (case k => k_is)
    have d15 := by
      refine' Ov.mk_15 KX G ?a ?l ?c ?k
      (case a => k_is); (case l => k_is); (case c => k_is); (case k => k_is)
    have d16 := by
      refine' Ov.mk_16 KX G ?a ?l ?c ?k
      (case a => k_is); (case l => k_is); (case c => k_is); (case k => k_is)
    have d17 := by
      refine' Ov.mk_17 KX G ?a ?l ?c ?k
      (case a => k_is); (case l => k_is); (case c => k_is); (case k => k_is)
    have d18 := by
      refine' Ov.mk_18 KX G ?a ?l ?c ?k
      (case a => k_is); (case l => k_is); (case c => k_is); (case k => k_is)
    have d19 := by
      refine' Ov.mk_19 KX G ?a ?l ?c ?k
      (case a => k_is); (case l => k_is); (case c => k_is); (case k => k_is)
    have d20 := by
      refine' Ov.mk_20 KX G ?a ?l ?c ?k
      (case a => k_is); (case l => k_is); (case c => k_is); (case k => k_is)
    have d21 := by
      refine' Ov.mk_21 KX G ?a ?l ?c ?k
      (case a => k_is); (case l => k_is); (case c => k_is); (case k => k_is)
    have d22 := by
      refine' Ov.mk_22 KX G ?a ?l ?c ?k
      (case a => k_is); (case l => k_is); (case c => k_is); (case k => k_is)
    have tx := by
      refine' Ov.txt_mk KX G ?n0 ?n1 ?n2 ?n3 ?n4 ?n5 ?n6 ?n7 ?n8 ?n9 ?n10 ?c0 ?c1 ?c2
      (case n0 => k_is); (case n1 => k_is); (case n2 => k_is); (case n3 => k_is); (case n4 => k_is); (case n5 => k_is); (case n6 => k_is); (case n7 => k_is); (case n8 => k_is); (case n9 => k_is); (case n10 => k_is); (case c0 => k_is); (case c1 => k_is); (case c2 => k_is)
    refine' Ov.law_mk KX G hmg ?a ?l ?c ?k tx d0 d1 d2 d3 d4 d5 d6 d7 d8 d9 d10 d11 d12 d13 d14 d15 d16 d17 d18 d19 d20 d21 d22
    (case a => k_is); (case l => k_is); (case c => k_is); (case k => k_is)
