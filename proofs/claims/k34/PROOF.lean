import PyProof.Rows.All
import Wide.All
import OpenK.AllK
import Wide.FinOn
import HandS.ForMost
import HandS.TupAny
import HandS.IsInst
import HandS.Zip
import HandS.Conv
import HandS.TupSets
import KE.KTupSum
import KE.GoesEnum
import HandS.Codes
import PySem.Challenge.RW_lotplans_k34_whole_setup_ranges
set_option Elab.async false
set_option linter.all false
set_option maxRecDepth 100000
/-! Rules that the layer lacks: sum of a tuple, enumerate of a tuple, sorted of a dict whose keys are tuples of ints. -/
namespace LpR
open PySem PySem.Spec PyProof.Rows L2
section
variable {X : Cx}
/-! ### sum(t) -/
def rSumT (K : PySem.W.Frag) : List V → Hp → VK → Prop := fun vs H Q => ∃ (a : Addr) (ns : List Int), vs = [V.ref a] ∧ SqT K H a (ns.map V.int) ∧ Q (.int ns.sum) H
theorem cr_sumT (calm : X.calm = true) : CallR X (.builtin "sum") (rSumT X.K) := fun pins s σ H vs us Q I rel ⟨a, ns, one, tup, fin⟩ => by
  subst one
  obtain ⟨raw, rv, at_a, _⟩ := I.tuple tup
  have whole : IntsAre raw ns := rv.ints
  obtain ⟨ps, eps⟩ := whole.allInts.items
  have all : ps.toList.map Prod.fst = ns := by
    have z := whole.numsOf
    rw [show raw = (intItems ps).toList by rw [← eps], nums_intItems] at z
    exact z
  rw [Vals.ref1 rel]
  refine PySem.W.ktm_sumG (I.ok.hd calm) (xs := ps) (eps ▸ at_a) fun h1 n1 u k1 => ?_
  have tot : preSum (numAt ps) ps.size = ns.sum := by rw [preSum_eq, ← all, ← Array.length_toList, ← List.length_map (f := Prod.fst), List.take_length]
  exact tot ▸ ⟨.int _, H, I.kept k1, ⟨_, rfl⟩, fin⟩
end

/-! ### enumerate(t) -/
/-- the new enumerate over the iterator at i -/
def cell (i : Addr) : Obj := { cls := .type "enumerate", data := .fields #[.none, .bool false, .ref i, rawInt 0, .none, .none] }
/-- the heap with the iterator o and the enumerate over it -/
def two (h : Heap) (o : Obj) : Heap := (h.push o).push (cell h.objs.size)
set_option maxHeartbeats 2000000 in
theorem enum_made {v : Value} {o : Obj} {Hs : Heap → Prop} (B : Begins v o Hs) :
    Meets (Builtin.«enumerate.__new__» ⟨[.type "enumerate", v], []⟩) (fun _ R s => Hs s.heap ∧ R (.ok (.ret (.ref (s.heap.push o).objs.size))) { s with heap := two s.heap o }) :=
  .of_wp fun P w A R ⟨h0, g0, d0, n0, o0⟩ ⟨ready, fin⟩ => by
    have same := sub_enumerate
    have first : ∀ {A1 : Around} {bad good : Value → Shared → Prop}, good (.ref h0.objs.size) ⟨h0.push o, g0, d0, n0, o0⟩ → wpAny (model P w) A1 (pyIter v) good bad ⟨h0, g0, d0, n0, o0⟩ :=
      B.iter P w _ _ ⟨h0, g0, d0, n0, o0⟩ _ ready
    wp_walk using first
    refine wpAny_stack_any (fun _ => wpAny_pure ?_)
    split <;> try (rename_i c _ _ _ _ _; cases (c == Value.type "enumerate"))
    all_goals (wp_walk using first; exact ⟨_, rfl, fin⟩)
/-- enumerate(v), v's iterator a new object o: both are there, and what was there stays -/
theorem enum_called {P : Program} {w : World} {A : Around} {s : Shared} {v : Value} {o : Obj} {Hs : Heap → Prop} {good bad : Value → Shared → Prop} (B : Begins v o Hs) (ready : Hs s.heap)
    (go : (two s.heap o).get? (s.heap.objs.size + 1) = some (cell s.heap.objs.size) → (two s.heap o).get? s.heap.objs.size = some o →
      (∀ b u, s.heap.get? b = some u → (two s.heap o).get? b = some u) → good (.ref (s.heap.objs.size + 1)) { s with heap := two s.heap o }) :
    wpAny (model P w) A (call (.type "enumerate") [v]) good bad s :=
  callType_new F.called_enumerate (by decide) (F.typeCall_enumerate_1 v) (F.newCall_enumerate_1 v) (fun x => F.args_object_init_2 x v) F.entry_enumerate_new (enum_made B) ⟨ready, by
    have n : (s.heap.push o).objs.size = s.heap.objs.size + 1 := Heap.size_push ..
    have top : (two s.heap o).get? (s.heap.objs.size + 1) = some (cell s.heap.objs.size) := n ▸ Heap.get?_push_size (s.heap.push o) rfl
    show _ ∧ _
    rw [n]
    exact ⟨⟨_, top, rfl⟩, go top (Heap.get?_push_of_some _ (Heap.get?_push_size _ B.free)) fun _ _ z => Heap.get?_push_of_some _ (Heap.get?_push_of_some _ z)⟩⟩
/-- the tuple at a, each item in a new pair -/
def IteT (K : PySem.W.Frag) (a : Addr) : It :=
  ⟨fun i H => ∃ (xs : List V) (x : V), SqT K H a xs ∧ xs[i]? = some x, fun i H v H' => ∃ T x, v = .ref T ∧ H T = none ∧ H' = upd H T (.tup [.int (i : Nat), x]) ∧ ∀ xs, SqT K H a xs → xs[i]? = some x, fun i H => ∃ xs : List V, SqT K H a xs ∧ i = xs.length⟩
/-- the enumerate at e and the tuple's iterator at it stand ahead of the item i -/
def At (a e it : Addr) (i : Nat) (h : Heap) : Prop := (∃ old, IsEnum h e it i old) ∧ h.IsTupleIter it a i
theorem turn_enumT {P : Program} {w : World} {K : PySem.W.Frag} {elts : List Expr} {kk : Nat} {tpos : Pos} {a e it : Addr} (hai : a ≠ it) (hae : a ≠ e) (hei : e ≠ it) :
    Turn P w K (.Tuple elts kk tpos) (IteT K a) [e, it] e (At a e it) where
  mem := List.mem_cons_self ..
  obj := fun i h ⟨⟨_, en⟩, u, hu, _, ud⟩ b hb => by
    simp only [List.mem_cons, or_false, List.not_mem_nil] at hb
    rcases hb with rfl | rfl
    · exact ⟨_, en, by simp⟩
    · exact ⟨u, hu, by simp [ud]⟩
  keep := fun i h h' ⟨⟨old, en⟩, ti⟩ same => ⟨⟨old, same e (by simp) _ en⟩, ti.at (same it (by simp))⟩
  item := fun X eP ew eK calm i pins s σ H E I fr st ⟨xs, x, tup, hx⟩ => by
    subst eP ew eK
    obtain ⟨raw, rv, at_a, _⟩ := I.tuple tup
    obtain ⟨u, hu, ru⟩ := rv.get hx -- its value
    have W := WalksT.enumerateD (A := X.A) (Draws.tuple (prog := X.prog) (w := X.w) (A := X.A.in1) (I.ok.hd calm) it a hai raw.toArray) e hei (by simp [hei, Ne.symm hae]) (by simp)
    refine W.item i s _ _ (by simpa using (List.getElem?_eq_some_iff.mp hu).1) ⟨st.1, st.2, at_a⟩ fun T pair h1 n1 ⟨t, y, hy, ep⟩ new there mid k1 => ⟨_, rfl, ?_⟩
    refine W.go _ _ _ i T _ _ _ mid fun h2 st2 k2 => ?_
    obtain rfl : u = y := by simpa [hu] using hy
    have far : T ∉ [e, it] := W.apart i T _ mid
    have pairOk : ObjOk X.prog X.w (upd H T (.tup [.int (i : Nat), x])) h2 T (.tup [.int (i : Nat), x]) :=
      ⟨by show 2 ≤ sizeLine; decide, [.int i t, u], .cons ⟨_, rfl⟩ (.cons ru .nil), by rw [ep] at there; exact there.at fun o z => k2 T o far z⟩
    exact ⟨.ref T, upd H T (.tup [.int (i : Nat), x]), I.turnedNew (ch := [e, it]) (fun b o nb z => k2 b o nb (k1 b o nb z)) fr new pairOk, rfl,
      ⟨T, x, rfl, I.hok.fresh new, rfl, fun ys more => I.tuple_inj more tup ▸ hx⟩, ⟨st2.1, st2.2.1⟩, fun b hb => by rw [upd_ne (show b ≠ T from fun z => far (z ▸ hb))]; exact (fr b hb).1⟩
  done := fun X eP ew eK calm i pins s σ H E I fr st ⟨xs, tup, over⟩ => by
    subst eP ew eK over
    obtain ⟨raw, rv, at_a, _⟩ := I.tuple tup
    have W := WalksT.enumerateD (A := X.A) (Draws.tuple (prog := X.prog) (w := X.w) (A := X.A.in1) (I.ok.hd calm) it a hai raw.toArray) e hei (by simp [hei, Ne.symm hae]) (by simp)
    have n : raw.toArray.size = xs.length := by rw [List.size_toArray]; exact rv.length.symm
    exact W.done s _ _ (n ▸ ⟨st.1, st.2, at_a⟩) fun h1 n1 k1 => ⟨rfl, I.turnedL (ch := [e, it]) k1 fr⟩
  self := fun _ _ _ _ _ ⟨⟨_, en⟩, _⟩ go => wpAny_pyIter_enum en go
def iEnumT (K : PySem.W.Frag) (ta : TA) : TI := fun σ H R => ta σ H fun vs H1 => ∃ a xs, vs = [.ref a] ∧ SqT K H1 a xs ∧ R (IteT K a) H1
theorem pi_enumT {X : Cx} {e : Expr} {ta : TA} {p pos tpos : Pos} {elts : List Expr} {kk : Nat} (hg : Gl X "enumerate") (hm : X.mg "enumerate" = none) (ha : PA X [e] ta) (hs : starEach [e] X.env = [(false, eval e X.env)] := by rfl) :
    PI X (.Tuple elts kk tpos) (.Call (.Name "enumerate" p) [e] [] pos) (iEnumT X.K ta) where
  run pins s σ H R I h := by
    have args := ha.run pos pins s σ H _ I h
    refine Call_ (ld_blt I hg hm boot_enumerate (PyProof.Rows.callWith_type1 (thn args ?_) hs rfl))
    rintro us s1 ⟨vs, H1, I1, rel, a, xs, rfl, tup, fin⟩
    rw [Vals.ref1 rel]
    obtain ⟨raw, rv, at_a, _⟩ := I1.tuple tup
    have low : a < s1.heap.objs.size := at_a.lt
    refine enum_called (begins_tuple a raw.toArray) at_a fun en it old => wpAny_pyIter_enum en ?_
    refine ⟨_, _, At a (s1.heap.objs.size + 1) s1.heap.objs.size, _, H1, rfl, I1.kept (t' := s1.toks) old, turn_enumT (Nat.ne_of_lt low) (Nat.ne_of_lt (Nat.lt_succ_of_lt low)) (Nat.succ_ne_self _), ⟨⟨.none, en⟩, _, it, rfl, rfl⟩, fun b hb => ?_, fin⟩
    have high : s1.heap.objs.size ≤ b := by
      simp only [List.mem_cons, or_false, List.not_mem_nil] at hb
      exact hb.elim (fun z => z ▸ Nat.le_succ _) (fun z => z ▸ Nat.le_refl _)
    exact I1.fpOk high (I1.hok.fresh high)

/-! ### sorted(d), d's keys tuples of ints -/
def refA : Value → Addr
  | .ref a => a
  | _ => 0
theorem refA_refs {bs : List Addr} : ∀ {vs : List Value}, (∀ v ∈ vs, v ∈ bs.map Value.ref) → (vs.map refA).map Value.ref = vs
  | [], _ => rfl
  | v :: r, h => by
    obtain ⟨b, _, rfl⟩ := List.mem_map.mp (h v (by simp))
    have ih := refA_refs (vs := r) fun u hu => h u (List.mem_cons_of_mem _ hu)
    show Value.ref b :: (r.map refA).map Value.ref = _
    rw [ih]
theorem refs_refA (bs : List Addr) : (bs.map Value.ref).map refA = bs := by
  induction bs with
  | nil => rfl
  | cons b r ih => show b :: (r.map Value.ref).map refA = _; rw [ih]
/-- each key's tuple belongs to an entry -/
theorem isKeys_mem {H : Hp} {kvs : List (List Key × V)} {bs : List Addr} (p : IsKeys H kvs bs) : ∀ b ∈ bs, ∃ e ∈ kvs, H b = some (.tup (e.1.map kV)) := by
  unfold IsKeys at p
  induction p with
  | nil => intro b hb; cases hb
  | cons r _ ih =>
    intro b hb
    cases List.mem_cons.mp hb with
    | inl z => exact ⟨_, List.mem_cons_self .., z ▸ r⟩
    | inr z => exact let ⟨e, m, y⟩ := ih b z; ⟨e, List.mem_cons_of_mem _ m, y⟩
/-- what a walk over the entries' keys has brought -/
theorem brought {P : Program} {w : World} {κ : Type} [DecidableEq κ] {knd : HeapKind P w κ} {es : Array DictEntry} {ks : List (κ × Addr × Value)} {acc : Array Value} (he : es.toList = ks.map (entryOfKey knd)) (n : acc.size = es.size)
    (h : ∀ (j : Nat) (v : Value), acc[j]? = some v → ∃ en : DictEntry, es[j]? = some en ∧ v = en.key) : acc.toList = (ks.map fun x => x.2.1).map Value.ref := by
  have n2 : acc.size = ks.length := n.trans (size_of_entries he)
  refine List.ext_getElem (by simpa using n2) fun j h1 h2 => ?_
  have h1' : j < acc.size := by simpa using h1
  obtain ⟨en, at_j, key⟩ := h j acc[j] (by simp [h1'])
  have hj : j < ks.length := n2 ▸ h1'
  rw [entry_at he j, List.getElem?_eq_getElem hj] at at_j
  have z : entryOfKey knd ks[j] = en := Option.some.inj at_j
  simp only [Array.getElem_toList, List.getElem_map]
  rw [key, ← z]
  rfl
section
variable {X : Cx}
/-- a dict with tuple keys, fewer than 64, each of d ints in [0, B): a new list of the key tuples, in some order -/
def rSortedD : List V → Hp → VK → Prop := fun vs H Q => ∃ (a : Addr) (kvs : List (List Key × V)) (d : Nat) (B : Int), vs = [V.ref a] ∧ H a = some (.dT kvs) ∧ kvs.length < 64 ∧ 1 ≤ d ∧
  (∀ e ∈ kvs, ∃ ns : List Int, e.1 = ns.map Sum.inl ∧ ns.length = d ∧ TS.Bd B ns) ∧
  ∀ (p : Addr) (bs cs : List Addr), H p = none → IsKeys H kvs bs → cs.Perm bs → Q (.ref p) (upd H p (.lst (cs.map V.ref)))
theorem cr_sortedD (calm : X.calm = true) : CallR X (.builtin "sorted") rSortedD := fun pins s σ H vs us Q I rel ⟨a, kvs, d, B, one, at_a, few, d1, small, fin⟩ => by
  subst one
  rw [Vals.ref1 rel]
  obtain ⟨_, own, ks, pr, o, es, ep, ho, exact_, data, he, _⟩ := (show ObjOk X.prog X.w H s.heap a (.dT kvs) from I.hok a _ at_a)
  generalize eb : ks.map (fun x => x.2.1) = bs
  have keys : IsKeys H kvs bs := eb ▸ isKeys_of pr
  have nb : bs.length < 64 := by rw [← Paired.length keys]; exact few
  have ne : es.size ≤ sizeLine := by
    have : es.size = bs.length := by rw [size_of_entries he, ← eb, List.length_map]
    exact this ▸ Nat.le_trans (Nat.le_of_lt nb) (by decide)
  refine Calls.call_function_entry kind_sorted plain_sorted entry_sorted (args_sorted1 (.ref a)) ?_
  unfold Builtin.«sorted»
  refine wpAny_bind (m := checkCount "sorted" 1 1 _) (wpAny_pure (wpAny_bind ?_))
  refine PySem.W.kdu_collect (kdl_raw own exact_ data) (I.ok.hd calm) ho ne fun h1 n1 acc k1 got => ?_
  have refs : acc.toList = bs.map Value.ref := eb ▸ brought he got.1 got.2
  rw [refs]
  have I1 : Inv X pins σ H { s with heap := h1, toks := n1 } := I.kept k1
  refine wpAny_bind (wpAny_newList ?_ (by rw [List.length_map]; exact Nat.le_trans (Nat.le_of_lt nb) (by decide)))
  generalize e2 : h1.push (seqObj "list" (bs.map Value.ref).toArray 0) = h2
  have new : h2.get? h1.objs.size = some (seqObj "list" (bs.map Value.ref).toArray 0) := e2 ▸ Heap.get?_push_size _ rfl
  have k2 : ∀ b u, h1.get? b = some u → h2.get? b = some u := fun b u z => e2 ▸ Heap.get?_push_of_some _ z
  have n2 : h2.objs.size = h1.objs.size + 1 := by rw [← e2]; exact Heap.size_push ..
  show wpAny _ _ _ _ _ { s with heap := h2, toks := n1 }
  have tups : TS.TupsOk h2 d B (bs.map Value.ref) := fun v hv => by
    obtain ⟨b, hb, rfl⟩ := List.mem_map.mp hv
    obtain ⟨e, he, at_b⟩ := isKeys_mem keys b hb
    obtain ⟨ns, ek, nd, bd⟩ := small e he
    have t : SqT X.K H b (ns.map V.int) := SqT.of (by rw [at_b, ek, List.map_map]; rfl)
    exact ⟨ns, (tupI_raw I1 t).keeps fun c u z _ => k2 c u z, nd, bd⟩
  refine wpAny_bind (wpAny_holding (wpAny_call_entry slot_list_sort ⟨_, new, rfl⟩ entry_list_sort (TS.sort_tups new (by rw [List.length_map]; exact nb) d1 tups (fun v => TS.code B (TS.intsOf h2 v)) (fun v _ ns t => congrArg (TS.code B) t.ints)
    fun out perm _ => ⟨_, rfl, wpAny_pure ⟨_, rfl, .ref h1.objs.size, ?_⟩⟩) (args_list_sort _)))
  obtain ⟨room, at_new⟩ := sortedHeap_at (vs := bs.map Value.ref) (out := out) new
  have cs : (out.toList.map refA).Perm bs := refs_refA bs ▸ perm.map refA
  have back : (out.toList.map refA).map Value.ref = out.toList := refA_refs fun v hv => perm.mem_iff.mp hv
  have listOk : ObjOk X.prog X.w (upd H h1.objs.size (.lst ((out.toList.map refA).map V.ref))) (sortedHeap h2 h1.objs.size (bs.map Value.ref) out) h1.objs.size (.lst ((out.toList.map refA).map V.ref)) :=
    ⟨by rw [List.length_map, cs.length_eq]; exact Nat.le_trans (Nat.le_of_lt nb) (by decide), out.toList, room, (show Vals ((out.toList.map refA).map V.ref) ((out.toList.map refA).map Value.ref) from vals_refs _) |> fun z => by rwa [back] at z, by rw [Array.toArray_toList]; exact at_new⟩
  refine ⟨_, I1.laid (t' := n1) (fun b u z => ?_) (Nat.le_refl _) listOk, rfl, fin _ _ _ (I1.hok.fresh (Nat.le_refl _)) keys cs⟩
  have low : b < h1.objs.size := Heap.lt_size z
  exact (sortedHeap_old (Nat.ne_of_lt low) (n2 ▸ Nat.lt_succ_of_lt low)).trans (k2 b u z)
end
end LpR

/-! The text by places, what the top has written, helpers. -/
namespace Lp
open PySem PySem.Spec PyProof.Rows L2 LpR
def topS (i : Nat) : Stmt := PySem.Challenge.pw_lotplans_k34_whole_setup_ranges.main.body.getD i (.Pass ⟨0, 0, 0, 0⟩)
abbrev s_isint : Stmt := topS 6
abbrev N_isint : List Str := ["value"]
theorem sc_isint : FnScope N_isint ["value"] (defScope s_isint) := ⟨rfl, rfl, rfl, by decide +kernel, rfl, by decide +kernel, by decide +kernel⟩
abbrev s_isin : Stmt := topS 7
abbrev N_isin : List Str := ["value", "least", "most"]
theorem sc_isin : FnScope N_isin ["value", "least", "most"] (defScope s_isin) := ⟨rfl, rfl, rfl, by decide +kernel, rfl, by decide +kernel, by decide +kernel⟩
abbrev s_needproblem : Stmt := topS 11
abbrev N_needproblem : List Str := ["value", "number", "part", "index", "entry"]
theorem sc_needproblem : FnScope N_needproblem ["value"] (defScope s_needproblem) := ⟨rfl, rfl, rfl, by decide +kernel, rfl, by decide +kernel, by decide +kernel⟩
abbrev s_periodsof : Stmt := topS 12
abbrev N_periodsof : List Str := ["problem"]
theorem sc_periodsof : FnScope N_periodsof ["problem"] (defScope s_periodsof) := ⟨rfl, rfl, rfl, by decide +kernel, rfl, by decide +kernel, by decide +kernel⟩
abbrev s_kept : Stmt := topS 13
abbrev N_kept : List Str := ["problem", "start", "goal"]
theorem sc_kept : FnScope N_kept ["problem", "start", "goal"] (defScope s_kept) := ⟨rfl, rfl, rfl, by decide +kernel, rfl, by decide +kernel, by decide +kernel⟩
abbrev s_stockrow : Stmt := topS 14
abbrev N_stockrow : List Str := ["demands", "amounts", "found", "stock", "amount", "demand"]
theorem sc_stockrow : FnScope N_stockrow ["demands", "amounts"] (defScope s_stockrow) := ⟨rfl, rfl, rfl, by decide +kernel, rfl, by decide +kernel, by decide +kernel⟩
abbrev s_needplan : Stmt := topS 15
abbrev N_needplan : List Str := ["problem", "value", "many", "index", "stock", "part"]
theorem sc_needplan : FnScope N_needplan ["problem", "value"] (defScope s_needplan) := ⟨rfl, rfl, rfl, by decide +kernel, rfl, by decide +kernel, by decide +kernel⟩
abbrev s_needboth : Stmt := topS 16
abbrev N_needboth : List Str := ["problem", "plan"]
theorem sc_needboth : FnScope N_needboth ["problem", "plan"] (defScope s_needboth) := ⟨rfl, rfl, rfl, by decide +kernel, rfl, by decide +kernel, by decide +kernel⟩
abbrev s_costof : Stmt := topS 17
abbrev N_costof : List Str := ["problem", "plan", "found", "at", "stock"]
theorem sc_costof : FnScope N_costof ["problem", "plan"] (defScope s_costof) := ⟨rfl, rfl, rfl, by decide +kernel, rfl, by decide +kernel, by decide +kernel⟩
abbrev s_lotcost : Stmt := topS 19
abbrev N_lotcost : List Str := ["problem", "start", "end", "at"]
theorem sc_lotcost : FnScope N_lotcost ["problem", "start", "end"] (defScope s_lotcost) := ⟨rfl, rfl, rfl, by decide +kernel, rfl, by decide +kernel, by decide +kernel⟩
abbrev s_stages : Stmt := topS 20
abbrev N_stages : List Str := ["problem", "found", "end", "start"]
theorem sc_stages : FnScope N_stages ["problem"] (defScope s_stages) := ⟨rfl, rfl, rfl, by decide +kernel, rfl, by decide +kernel, by decide +kernel⟩
abbrev s_without : Stmt := topS 22
abbrev N_without : List Str := ["problem", "period", "found", "end", "fits", "start", "need", "lot", "at"]
theorem sc_without : FnScope N_without ["problem", "period"] (defScope s_without) := ⟨rfl, rfl, rfl, by decide +kernel, rfl, by decide +kernel, by decide +kernel⟩
abbrev s_withfree : Stmt := topS 23
abbrev N_withfree : List Str := ["problem", "period", "setups"]
theorem sc_withfree : FnScope N_withfree ["problem", "period"] (defScope s_withfree) := ⟨rfl, rfl, rfl, by decide +kernel, rfl, by decide +kernel, by decide +kernel⟩
abbrev s_needperiod : Stmt := topS 24
abbrev N_needperiod : List Str := ["problem", "period"]
theorem sc_needperiod : FnScope N_needperiod ["problem", "period"] (defScope s_needperiod) := ⟨rfl, rfl, rfl, by decide +kernel, rfl, by decide +kernel, by decide +kernel⟩
abbrev s_forced : Stmt := topS 25
abbrev N_forced : List Str := ["problem", "period", "many", "best", "ahead", "end", "lot", "tail", "cost", "at", "part"]
theorem sc_forced : FnScope N_forced ["problem", "period"] (defScope s_forced) := ⟨rfl, rfl, rfl, by decide +kernel, rfl, by decide +kernel, by decide +kernel⟩
abbrev s_setuprange : Stmt := topS 26
abbrev N_setuprange : List Str := ["problem", "plan", "period", "paid", "other", "free"]
theorem sc_setuprange : FnScope N_setuprange ["problem", "plan", "period"] (defScope s_setuprange) := ⟨rfl, rfl, rfl, by decide +kernel, rfl, by decide +kernel, by decide +kernel⟩
abbrev s_Ltaken : Stmt := topS 28
abbrev N_Ltaken : List Str := ["_law_row_here", "_law_many", "_law_found", "_law_cell"]
theorem sc_Ltaken : FnScope N_Ltaken ["_law_row_here", "_law_many"] (defScope s_Ltaken) := ⟨rfl, rfl, rfl, by decide +kernel, rfl, by decide +kernel, by decide +kernel⟩
abbrev s_Lpick : Stmt := topS 29
abbrev N_Lpick : List Str := ["_law_row_here", "_law_things"]
theorem sc_Lpick : FnScope N_Lpick ["_law_row_here", "_law_things"] (defScope s_Lpick) := ⟨rfl, rfl, rfl, by decide +kernel, rfl, by decide +kernel, by decide +kernel⟩
abbrev s_Lwhole : Stmt := topS 30
abbrev N_Lwhole : List Str := ["_law_value", "_law_least_here", "_law_most"]
theorem sc_Lwhole : FnScope N_Lwhole ["_law_value", "_law_least_here", "_law_most"] (defScope s_Lwhole) := ⟨rfl, rfl, rfl, by decide +kernel, rfl, by decide +kernel, by decide +kernel⟩
abbrev s_Lentries : Stmt := topS 31
abbrev N_Lentries : List Str := ["_law_row_here", "_law_many", "_law_most", "_law_at"]
theorem sc_Lentries : FnScope N_Lentries ["_law_row_here", "_law_many", "_law_most"] (defScope s_Lentries) := ⟨rfl, rfl, rfl, by decide +kernel, rfl, by decide +kernel, by decide +kernel⟩
abbrev s_Lsteps : Stmt := topS 32
abbrev N_Lsteps : List Str := ["_law_row_here", "_law_many", "_law_most", "_law_base", "_law_at"]
theorem sc_Lsteps : FnScope N_Lsteps ["_law_row_here", "_law_many", "_law_most"] (defScope s_Lsteps) := ⟨rfl, rfl, rfl, by decide +kernel, rfl, by decide +kernel, by decide +kernel⟩
abbrev s_Lproblem : Stmt := topS 33
abbrev N_Lproblem : List Str := ["_law_row_here", "_law_many", "_law_way", "_law_demands", "_law_setups", "_law_units", "_law_at"]
theorem sc_Lproblem : FnScope N_Lproblem ["_law_row_here", "_law_many"] (defScope s_Lproblem) := ⟨rfl, rfl, rfl, by decide +kernel, rfl, by decide +kernel, by decide +kernel⟩
abbrev s_Lrow : Stmt := topS 34
abbrev N_Lrow : List Str := ["_law_demands", "_law_plan", "_law_found", "_law_left", "_law_at"]
theorem sc_Lrow : FnScope N_Lrow ["_law_demands", "_law_plan"] (defScope s_Lrow) := ⟨rfl, rfl, rfl, by decide +kernel, rfl, by decide +kernel, by decide +kernel⟩
abbrev s_Lcost : Stmt := topS 35
abbrev N_Lcost : List Str := ["_law_problem_here", "_law_plan", "_law_left", "_law_found", "_law_at"]
theorem sc_Lcost : FnScope N_Lcost ["_law_problem_here", "_law_plan"] (defScope s_Lcost) := ⟨rfl, rfl, rfl, by decide +kernel, rfl, by decide +kernel, by decide +kernel⟩
abbrev s_Lsets : Stmt := topS 36
abbrev N_Lsets : List Str := ["_law_many", "_law_found", "_law_at", "_law_told"]
theorem sc_Lsets : FnScope N_Lsets ["_law_many"] (defScope s_Lsets) := ⟨rfl, rfl, rfl, by decide +kernel, rfl, by decide +kernel, by decide +kernel⟩
abbrev s_Lfilled : Stmt := topS 37
abbrev N_Lfilled : List Str := ["_law_problem_here", "_law_told", "_law_many", "_law_first", "_law_found", "_law_at", "_law_end"]
theorem sc_Lfilled : FnScope N_Lfilled ["_law_problem_here", "_law_told"] (defScope s_Lfilled) := ⟨rfl, rfl, rfl, by decide +kernel, rfl, by decide +kernel, by decide +kernel⟩
abbrev s_Lintervals : Stmt := topS 38
abbrev N_Lintervals : List Str := ["_law_problem_here", "_law_found", "_law_told", "_law_plan"]
theorem sc_Lintervals : FnScope N_Lintervals ["_law_problem_here"] (defScope s_Lintervals) := ⟨rfl, rfl, rfl, by decide +kernel, rfl, by decide +kernel, by decide +kernel⟩
abbrev s_Lleast : Stmt := topS 39
abbrev N_Lleast : List Str := ["_law_problem_here", "_law_told", "_law_plan"]
theorem sc_Lleast : FnScope N_Lleast ["_law_problem_here"] (defScope s_Lleast) := ⟨rfl, rfl, rfl, by decide +kernel, rfl, by decide +kernel, by decide +kernel⟩
abbrev s_Lanyplan : Stmt := topS 40
abbrev N_Lanyplan : List Str := ["_law_row_here", "_law_demands", "_law_found", "_law_at", "_law_left", "_law_turn", "_law_part", "_law_start"]
theorem sc_Lanyplan : FnScope N_Lanyplan ["_law_row_here", "_law_demands"] (defScope s_Lanyplan) := ⟨rfl, rfl, rfl, by decide +kernel, rfl, by decide +kernel, by decide +kernel⟩
abbrev s_Lwith : Stmt := topS 41
abbrev N_Lwith : List Str := ["_law_problem_here", "_law_period", "_law_setup"]
theorem sc_Lwith : FnScope N_Lwith ["_law_problem_here", "_law_period", "_law_setup"] (defScope s_Lwith) := ⟨rfl, rfl, rfl, by decide +kernel, rfl, by decide +kernel, by decide +kernel⟩
abbrev s_law : Stmt := topS 42
abbrev N_law : List Str := ["_law_script", "_law_row_here", "_law_many", "_law_problem_here", "_law_told", "_law_plan", "_law_least_here", "_law_period", "_law_found", "_law_tried", "_law_setup", "_law_now", "_law_good", "_law_some"]
theorem sc_law : FnScope N_law ["_law_script"] (defScope s_law) := ⟨rfl, rfl, rfl, by decide +kernel, rfl, by decide +kernel, by decide +kernel⟩
structure Df (K : PySem.W.Frag) (mg : Str → Option Value) (name : Str) (st : Stmt) (ps : List Str) : Prop where
  ex : ∃ f fd, Fun K name name st f fd ∧ Binds K fd ps [] ∧ mg name = some (.ref f)
structure Txt (K : PySem.W.Frag) (mg : Str → Option Value) : Prop where
  z_all : mg "all" = none
  z_any : mg "any" = none
  z_bool : mg "bool" = none
  z_enumerate : mg "enumerate" = none
  z_int : mg "int" = none
  z_isinstance : mg "isinstance" = none
  z_len : mg "len" = none
  z_max : mg "max" = none
  z_min : mg "min" = none
  z_range : mg "range" = none
  z_sorted : mg "sorted" = none
  z_sum : mg "sum" = none
  z_tuple : mg "tuple" = none
  z_zip : mg "zip" = none
  mp : ∃ t, mg "MOST_PERIODS" = some (.int 12 t)
  me : ∃ t, mg "MOST_ENTRY" = some (.int 999 t)
  d_isint : Df K mg "is_int" s_isint ["value"]
  d_isin : Df K mg "is_in" s_isin ["value", "least", "most"]
  d_needproblem : Df K mg "need_problem" s_needproblem ["value"]
  d_periodsof : Df K mg "periods_of" s_periodsof ["problem"]
  d_kept : Df K mg "kept" s_kept ["problem", "start", "goal"]
  d_stockrow : Df K mg "stock_row" s_stockrow ["demands", "amounts"]
  d_needplan : Df K mg "need_plan" s_needplan ["problem", "value"]
  d_needboth : Df K mg "need_both" s_needboth ["problem", "plan"]
  d_costof : Df K mg "cost_of" s_costof ["problem", "plan"]
  d_lotcost : Df K mg "lot_cost" s_lotcost ["problem", "start", "end"]
  d_stages : Df K mg "stages" s_stages ["problem"]
  d_without : Df K mg "without" s_without ["problem", "period"]
  d_withfree : Df K mg "with_free" s_withfree ["problem", "period"]
  d_needperiod : Df K mg "need_period" s_needperiod ["problem", "period"]
  d_forced : Df K mg "forced" s_forced ["problem", "period"]
  d_setuprange : Df K mg "setup_range" s_setuprange ["problem", "plan", "period"]
  d_Ltaken : Df K mg "_law_taken" s_Ltaken ["_law_row_here", "_law_many"]
  d_Lpick : Df K mg "_law_pick" s_Lpick ["_law_row_here", "_law_things"]
  d_Lwhole : Df K mg "_law_whole" s_Lwhole ["_law_value", "_law_least_here", "_law_most"]
  d_Lentries : Df K mg "_law_entries" s_Lentries ["_law_row_here", "_law_many", "_law_most"]
  d_Lsteps : Df K mg "_law_steps" s_Lsteps ["_law_row_here", "_law_many", "_law_most"]
  d_Lproblem : Df K mg "_law_problem" s_Lproblem ["_law_row_here", "_law_many"]
  d_Lrow : Df K mg "_law_row" s_Lrow ["_law_demands", "_law_plan"]
  d_Lcost : Df K mg "_law_cost" s_Lcost ["_law_problem_here", "_law_plan"]
  d_Lsets : Df K mg "_law_sets" s_Lsets ["_law_many"]
  d_Lfilled : Df K mg "_law_filled" s_Lfilled ["_law_problem_here", "_law_told"]
  d_Lintervals : Df K mg "_law_intervals" s_Lintervals ["_law_problem_here"]
  d_Lleast : Df K mg "_law_least" s_Lleast ["_law_problem_here"]
  d_Lanyplan : Df K mg "_law_any_plan" s_Lanyplan ["_law_row_here", "_law_demands"]
  d_Lwith : Df K mg "_law_with" s_Lwith ["_law_problem_here", "_law_period", "_law_setup"]
  d_law : Df K mg "law" s_law ["_law_script"]
/-- a def stands and keeps its promise -/
def Ok (P : Program) (w : World) (K : PySem.W.Frag) (mg : Str → Option Value) (base : Heap) (k : Nat) (name : Str) (ps : List Str) (sp : Sp) : Prop :=
  ∃ f fd, FnOk P w K mg base CX0 k f fd ps sp ∧ mg name = some (.ref f) ∧ PySem.W.keepIn K (.ref f) = true ∧ Binds K fd ps []
theorem Df.ok {P : Program} {w : World} {K : PySem.W.Frag} {mg : Str → Option Value} {base : Heap} {k : Nat} {name : Str} {st : Stmt} {ps : List Str} {sp : Sp} (D : Df K mg name st ps)
    (h : ∀ f fd, Fun K name name st f fd → FnOk P w K mg base CX0 k f fd ps sp) : Ok P w K mg base k name ps sp := by
  obtain ⟨f, fd, F, b, g⟩ := D.ex
  exact ⟨f, fd, h f fd F, g, F.kp, b⟩
end Lp

/-! Helpers: heaps, slices, comprehensions over pure elements; the mirror of the program's data. -/
namespace Lp
open PySem PySem.Spec PyProof.Rows L2 LpR
theorem same_upd {H : Hp} {p : Addr} {o : HO} (free : H p = none) : Same H (upd H p o) := fun b x e => by
  rw [upd_ne (ne_of_none e free)]
  exact e
/-- a tuple of ints at a -/
abbrev TI (H : Hp) (a : Addr) (ns : List Int) : Prop := H a = some (.tup (ns.map V.int))
theorem TI.same {H H' : Hp} {a : Addr} {ns : List Int} (h : TI H a ns) (s : Same H H') : TI H' a ns := s _ _ h
/-- a problem: demands, setups, units, holdings -/
structure Pb where
  d : List Int
  s : List Int
  u : List Int
  h : List Int
structure PAt (H : Hp) (p : Addr) (P : Pb) (a b c e : Addr) : Prop where
  top : H p = some (.tup [.ref a, .ref b, .ref c, .ref e])
  d : TI H a P.d
  s : TI H b P.s
  u : TI H c P.u
  h : TI H e P.h
theorem PAt.same {H H' : Hp} {p a b c e : Addr} {P : Pb} (x : PAt H p P a b c e) (s : Same H H') : PAt H' p P a b c e :=
  ⟨s _ _ x.top, s _ _ x.d, s _ _ x.s, s _ _ x.u, s _ _ x.h⟩
structure Wf (P : Pb) (n : Nat) : Prop where
  ld : P.d.length = n
  ls : P.s.length = n
  lu : P.u.length = n
  lh : P.h.length = n
  n1 : 1 ≤ n
  n12 : n ≤ 12
  bd : ∀ x ∈ P.d, 0 ≤ x ∧ x ≤ 999
  bs : ∀ x ∈ P.s, 0 ≤ x
  bu : ∀ x ∈ P.u, 0 ≤ x ∧ x ≤ 999
  bh : ∀ x ∈ P.h, 0 ≤ x ∧ x ≤ 999
/-- the sum of a segment -/
def seg (l : List Int) (a b : Nat) : Int := ((l.drop a).take (b - a)).sum
def g (l : List Int) (i : Nat) : Int := l.getD i 0
theorem g_mem {l : List Int} {i : Nat} (h : i < l.length) : g l i ∈ l := by
  unfold g
  rw [List.getD_eq_getElem?_getD, List.getElem?_eq_getElem h]
  exact List.getElem_mem h
theorem g_get {l : List Int} {i : Nat} (h : i < l.length) : l[i]? = some (g l i) := by
  unfold g
  rw [List.getD_eq_getElem?_getD, List.getElem?_eq_getElem h]
  rfl
theorem g_at {l : List Int} {i : Nat} (h : i < l.length) : atI (l.map V.int) (i : Int) = some (.int (g l i)) := by
  refine atI_nat ?_
  rw [List.getElem?_map, g_get h]
  rfl
theorem at0 {a b c e : V} : atI [a, b, c, e] 0 = some a := atI_nat (j := 0) rfl
theorem at1 {a b c e : V} : atI [a, b, c, e] 1 = some b := atI_nat (j := 1) rfl
theorem at2 {a b c e : V} : atI [a, b, c, e] 2 = some c := atI_nat (j := 2) rfl
theorem at3 {a b c e : V} : atI [a, b, c, e] 3 = some e := atI_nat (j := 3) rfl

/-! ### slices and sums of tuples -/
theorem cut_map (ns : List Int) (a b : Nat) (ha : a ≤ ns.length) (hb : b ≤ ns.length) : cutV (ns.map V.int) (some (a : Int)) (some (b : Int)) = ((ns.drop a).take (b - a)).map V.int := by
  unfold cutV
  rw [HT.sIx_nat, HT.sIx_nat, List.length_map, Nat.min_eq_left ha, Nat.min_eq_left hb, List.map_take, List.map_drop]
theorem cut_from (ns : List Int) (a : Nat) (ha : a ≤ ns.length) : cutV (ns.map V.int) (some (a : Int)) none = (ns.drop a).map V.int := by
  unfold cutV
  rw [HT.sIx_nat, HT.sIx_none, List.length_map, Nat.min_eq_left ha, List.map_drop]
  exact List.take_of_length_le (by rw [List.length_drop, List.length_map]; omega)
theorem cut_to (ns : List Int) (b : Nat) (hb : b ≤ ns.length) : cutV (ns.map V.int) none (some (b : Int)) = (ns.take b).map V.int := by
  unfold cutV
  rw [HT.sIx_nat, HT.sIx_none, List.length_map, Nat.min_eq_left hb, Nat.sub_zero, List.drop_zero, List.map_take]
/-- t[lo:hi] of a tuple, whole or not -/
theorem sl_read {K : PySem.W.Frag} {H : Hp} {a : Addr} {xs ys : List V} {lo hi : Option Int} {Q : VK} (h : H a = some (.tup xs)) (hc : cutV xs lo hi = ys) (q : ∀ p H', Same H H' → H' p = some (.tup ys) → Q (.ref p) H') : rSlA K (.ref a) lo hi H Q := by
  refine ⟨a, xs, rfl, SqT.of h, fun hw => ?_, fun _ p hp => ?_⟩
  · refine q a H (Same.refl H) ?_
    rw [h, ← hc]
    unfold cutV
    rw [hw.1, hw.2, List.drop_zero, Nat.sub_zero, List.take_length]
  · rw [hc]
    exact q p _ (same_upd hp) upd_same
/-- t + u of tuples, whatever is empty -/
theorem cat_read {K : PySem.W.Frag} {H : Hp} {a b : Addr} {xs ys : List V} {Q : VK} (h1 : H a = some (.tup xs)) (h2 : H b = some (.tup ys)) (hl : xs.length + ys.length ≤ 1000) (q : ∀ p H', Same H H' → H' p = some (.tup (xs ++ ys)) → Q (.ref p) H') : rCatA K (.ref a) (.ref b) H Q := by
  refine ⟨a, b, xs, ys, rfl, rfl, SqT.of h1, SqT.of h2, Nat.le_of_lt (small1000 hl), fun e => ?_, fun _ e => ?_, fun _ _ p hp => ?_⟩
  · refine q b H (Same.refl H) ?_
    rw [h2, e, List.nil_append]
  · refine q a H (Same.refl H) ?_
    rw [h1, e, List.append_nil]
  · exact q p _ (same_upd hp) upd_same

/-! ### what a comprehension's loop and a for ask, in short -/
/-- one turn of a comprehension that is to reach Nx -/
abbrev LcTurn (gg : TG) (tt : TT) (te : TE) (vs : List Nat) (σ : L2.St) (D : Addr) (Nx : Hp → Prop) (x : V) (H' : Hp) : Prop :=
  gg x (wipe σ vs) H' fun σ2 H2 => wipe σ2 vs = wipe σ vs ∧ tt σ2 H2 fun b H3 =>
    if b = true then te σ2 H3 fun y H4 => ∃ acc, H4 D = some (.lst acc) ∧
      acc.length < sizeLine ∧ Nx (upd H4 D (.lst (acc ++ [y])))
    else Nx H3
abbrev LcEnd (J : It) (gg : TG) (tt : TT) (te : TE) (vs : List Nat) (σ : L2.St) (H1 : Hp) (D : Addr) (Qd : Hp → Prop) : Prop :=
  ∃ W : Nat → Nat → Hp → Prop, (∃ m, W 0 m (upd H1 D (.lst []))) ∧
    ∀ i m H, W i m H → (J.stop i H ∧ Qd H) ∨ (J.go i H ∧
      ∃ Nx : Hp → Prop, (∀ H', Nx H' → ∃ m', m' < m ∧ W (i + 1) m' H') ∧
        ∀ x H', J.yld i H x H' → LcTurn gg tt te vs σ D Nx x H')
abbrev FoEnd (J : It) (gg : TG) (tb : TS) (D : Ends) (σ : L2.St) (H : Hp) : Prop :=
  ∃ W : Nat → Nat → L2.St → Hp → Prop, (∃ m, W 0 m σ H) ∧
    ∀ i m σ H, W i m σ H → (J.stop i H ∧ D.nx σ H) ∨ (J.go i H ∧
      ∃ N : L2.St → Hp → Prop, (∀ σ' H', N σ' H' → ∃ m', m' < m ∧ W (i + 1) m' σ' H') ∧
        ∀ x H', J.yld i H x H' → gg x σ H' fun σ2 H2 => tb { D with nx := N, ct := N, bk := D.nx } σ2 H2)

/-! ### comprehensions whose elements leave what stood -/
theorem lc_range_ints {lo : Nat} {n : Nat} {k : Int} {te : TE} {j : Nat} {vs : List Nat} {σ : L2.St} {H1 : Hp} {D : Addr} {Qd : Hp → Prop} (f : Nat → Int) (hk : k = (lo : Int)) (hn : n ≤ 1000) (hD : H1 D = none)
    (hs : ∀ i H (R : VK), i < n → Same H1 H → (∀ H4, Same H H4 → R (.int (f (lo + i))) H4) → gName j (.int ((lo + i : Nat) : Int)) (wipe σ vs) H fun σ2 H2 => wipe σ2 vs = wipe σ vs ∧ te σ2 H2 R)
    (hd : ∀ H, Same H1 H → H D = some (.lst (((List.range n).map fun i => f (lo + i)).map V.int)) → Qd H) :
    LcEnd (Itr k n) (gName j) tYes te vs σ H1 D Qd := by
  subst hk
  refine lc_range (fun i H => Same H1 H ∧ H D = some (.lst (((List.range i).map fun i => f (lo + i)).map V.int))) ⟨same_upd hD, upd_same⟩ (fun i H hi ⟨sm, hl⟩ => ?_) fun H ⟨sm, hl⟩ => hd H sm hl
  have e : ((lo : Int) + (i : Int)) = ((lo + i : Nat) : Int) := rfl
  rw [e]
  have key := hs i H (fun y H4 => ∃ acc, H4 D = some (.lst acc) ∧ acc.length < sizeLine ∧ Same H1 (upd H4 D (.lst (acc ++ [y]))) ∧ (upd H4 D (.lst (acc ++ [y]))) D = some (.lst (((List.range (i + 1)).map fun i => f (lo + i)).map V.int))) hi sm (fun H4 s4 => ?_)
  · obtain ⟨k1, k2⟩ := key
    refine ⟨k1, ?_⟩
    exact k2
  · refine ⟨_, s4 _ _ hl, ?_, fun b o ho => ?_, ?_⟩
    · rw [List.length_map, List.length_map, List.length_range]
      exact small1000 (by omega)
    · rw [upd_ne (ne_of_none ho hD)]
      exact s4 _ _ (sm _ _ ho)
    · rw [upd_same, List.range_succ, List.map_append, List.map_append]
      rfl
/-- over a tuple: each item x gives the value f x -/
theorem lc_tup_vals {K : PySem.W.Frag} {a : Addr} {xs : List V} {te : TE} {j : Nat} {vs : List Nat} {σ : L2.St} {H1 : Hp} {D : Addr} {Qd : Hp → Prop} (f : V → V) (hx : H1 a = some (.tup xs)) (hn : xs.length ≤ 1000) (hD : H1 D = none)
    (hs : ∀ (i : Nat) (x : V) (H : Hp) (R : VK), xs[i]? = some x → Same H1 H → (∀ H4, Same H H4 → R (f x) H4) → gName j x (wipe σ vs) H fun σ2 H2 => wipe σ2 vs = wipe σ vs ∧ te σ2 H2 R)
    (hd : ∀ H, Same H1 H → H D = some (.lst (xs.map f)) → Qd H) :
    LcEnd (Itt K a) (gName j) tYes te vs σ H1 D Qd := by
  refine lc_tup (xs := xs) (fun i H => i ≤ xs.length ∧ Same H1 H ∧ H D = some (.lst ((xs.take i).map f))) ⟨Nat.zero_le _, same_upd hD, upd_same⟩ (fun i H _ ⟨_, sm, _⟩ => SqT.of (sm _ _ hx)) (fun i x H hi ⟨hle, sm, hl⟩ => ?_) fun H ⟨_, sm, hl⟩ => hd H sm ?_
  · have hlt : i < xs.length := (List.getElem?_eq_some_iff.mp hi).1
    have key := hs i x H (fun y H4 => ∃ acc, H4 D = some (.lst acc) ∧ acc.length < sizeLine ∧ i + 1 ≤ xs.length ∧ Same H1 (upd H4 D (.lst (acc ++ [y]))) ∧ (upd H4 D (.lst (acc ++ [y]))) D = some (.lst ((xs.take (i + 1)).map f))) hi sm (fun H4 s4 => ?_)
    · obtain ⟨k1, k2⟩ := key
      refine ⟨k1, ?_⟩
      exact k2
    · refine ⟨_, s4 _ _ hl, ?_, hlt, fun b o ho => ?_, ?_⟩
      · rw [List.length_map, List.length_take]
        exact small1000 (by omega)
      · rw [upd_ne (ne_of_none ho hD)]
        exact s4 _ _ (sm _ _ ho)
      · rw [upd_same, List.take_add_one, hi, List.map_append]
        rfl
  · rw [List.take_length] at hl
    exact hl
theorem len1000 {n : Nat} (h : n ≤ 1000) : n ≤ sizeLine := Nat.le_of_lt (small1000 h)
theorem mulR {i j : Int} (h0 : 0 ≤ j) (h1 : j ≤ 100000000) : CMul i j := .inr ⟨by omega, by omega⟩
theorem mulL {i j : Int} (h0 : 0 ≤ i) (h1 : i ≤ 100000000) : CMul i j := .inl ⟨by omega, by omega⟩

/-! ### loops in short -/
def gPair (K : PySem.W.Frag) (j1 j2 : Nat) : TG := gTup K 2 (gCons (gName j1) (gCons (gName j2) gNil))
theorem pair_in {K : PySem.W.Frag} {j1 j2 : Nat} {T : Addr} {σ : L2.St} {H : Hp} {x y : V} {R : L2.St → Hp → Prop} (h : R ((σ.set j1 (some x)).set j2 (some y)) (upd H T (.tup [x, y]))) :
    gTup K 2 (gCons (gName j1) (gCons (gName j2) gNil)) (.ref T) σ (upd H T (.tup [x, y])) R :=
  ⟨T, [x, y], rfl, SqT.of upd_same, rfl, x, [y], rfl, y, [], rfl, rfl, h⟩
theorem for_enumL {K : PySem.W.Frag} {a : Addr} {xs : List V} {j1 j2 : Nat} {tb : TS} {D : Ends} {σ : L2.St} {H : Hp} (Pv : Nat → L2.St → Hp → Prop) (h0 : Pv 0 σ H) (hq : ∀ i σ H, Pv i σ H → H a = some (.lst xs))
    (hs : ∀ (i : Nat) (x : V) (σ : L2.St) (H H2 : Hp), xs[i]? = some x → Pv i σ H → Same H H2 → tb { D with nx := Pv (i + 1), ct := Pv (i + 1), bk := D.nx } ((σ.set j1 (some (.int (i : Nat)))).set j2 (some x)) H2) (hd : ∀ σ H, Pv xs.length σ H → D.nx σ H) :
    FoEnd (Ite K a) (gTup K 2 (gCons (gName j1) (gCons (gName j2) gNil))) tb D σ H := by
  refine ⟨fun i left σ H => left = xs.length - i ∧ i ≤ xs.length ∧ Pv i σ H, ⟨xs.length, rfl, Nat.zero_le _, h0⟩, ?_⟩
  rintro i m σ H ⟨rfl, hi, p⟩
  have qx : SqL K H a xs := SqL.of (hq i σ H p)
  by_cases hlt : i < xs.length
  · have hx := List.getElem?_eq_getElem hlt
    refine .inr ⟨⟨xs, _, qx, hx⟩, Pv (i + 1), fun σ' H' p' => ⟨xs.length - (i + 1), by omega, rfl, hlt, p'⟩, fun v H' y => ?_⟩
    obtain ⟨T, x', rfl, hT, rfl, f1⟩ := y
    exact pair_in (hs i x' σ H _ (f1 xs qx) p (same_upd hT))
  · obtain rfl : i = xs.length := by omega
    exact .inl ⟨⟨xs, qx, Nat.le_refl _⟩, hd σ H p⟩
theorem for_enumT {K : PySem.W.Frag} {a : Addr} {xs : List V} {j1 j2 : Nat} {tb : TS} {D : Ends} {σ : L2.St} {H : Hp} (Pv : Nat → L2.St → Hp → Prop) (h0 : Pv 0 σ H) (hq : ∀ i σ H, Pv i σ H → H a = some (.tup xs))
    (hs : ∀ (i : Nat) (x : V) (σ : L2.St) (H H2 : Hp), xs[i]? = some x → Pv i σ H → Same H H2 → tb { D with nx := Pv (i + 1), ct := Pv (i + 1), bk := D.nx } ((σ.set j1 (some (.int (i : Nat)))).set j2 (some x)) H2) (hd : ∀ σ H, Pv xs.length σ H → D.nx σ H) :
    FoEnd (IteT K a) (gTup K 2 (gCons (gName j1) (gCons (gName j2) gNil))) tb D σ H := by
  refine ⟨fun i left σ H => left = xs.length - i ∧ i ≤ xs.length ∧ Pv i σ H, ⟨xs.length, rfl, Nat.zero_le _, h0⟩, ?_⟩
  rintro i m σ H ⟨rfl, hi, p⟩
  have qx : SqT K H a xs := SqT.of (hq i σ H p)
  by_cases hlt : i < xs.length
  · have hx := List.getElem?_eq_getElem hlt
    refine .inr ⟨⟨xs, _, qx, hx⟩, Pv (i + 1), fun σ' H' p' => ⟨xs.length - (i + 1), by omega, rfl, hlt, p'⟩, fun v H' y => ?_⟩
    obtain ⟨T, x', rfl, hT, rfl, f1⟩ := y
    exact pair_in (hs i x' σ H _ (f1 xs qx) p (same_upd hT))
  · obtain rfl : i = xs.length := by omega
    exact .inl ⟨⟨xs, qx, rfl⟩, hd σ H p⟩
theorem for_zip2 {K : PySem.W.Frag} {a b : Addr} {xs ys : List V} {j1 j2 : Nat} {tb : TS} {D : Ends} {σ : L2.St} {H : Hp} (hl : xs.length = ys.length) (Pv : Nat → L2.St → Hp → Prop) (h0 : Pv 0 σ H) (hq : ∀ i σ H, Pv i σ H → H a = some (.tup xs) ∧ H b = some (.tup ys))
    (hs : ∀ (i : Nat) (x y : V) (σ : L2.St) (H H2 : Hp), xs[i]? = some x → ys[i]? = some y → Pv i σ H → Same H H2 → tb { D with nx := Pv (i + 1), ct := Pv (i + 1), bk := D.nx } ((σ.set j1 (some x)).set j2 (some y)) H2) (hd : ∀ σ H, Pv xs.length σ H → D.nx σ H) :
    FoEnd (RZ.ItzT K a b) (gTup K 2 (gCons (gName j1) (gCons (gName j2) gNil))) tb D σ H :=
  RZ.for_zipT hl Pv h0 (fun i σ H p => ⟨SqT.of (hq i σ H p).1, SqT.of (hq i σ H p).2⟩) (fun i x y T σ H hx hy p hT => pair_in (hs i x y σ H _ hx hy p (same_upd hT))) hd
/-- range(lo, ..): the item as a number from 0 up -/
theorem for_rangeN {lo : Nat} {k : Int} {n : Nat} {j : Nat} {tb : TS} {D : Ends} {σ : L2.St} {H : Hp} (hk : k = (lo : Int)) (Pv : Nat → L2.St → Hp → Prop) (h0 : Pv 0 σ H)
    (hs : ∀ i σ H, i < n → Pv i σ H → tb { D with nx := Pv (i + 1), ct := Pv (i + 1), bk := D.nx } (σ.set j (some (.int ((lo + i : Nat) : Int)))) H) (hd : ∀ σ H, Pv n σ H → D.nx σ H) :
    FoEnd (Itr k n) (gName j) tb D σ H := by
  subst hk
  exact for_range Pv h0 (fun i σ H hi p => hs i σ H hi p) hd

/-! ### the rules within a comprehension's block, K said -/
section
variable {X : Cx}
theorem ixtK (K : PySem.W.Frag) (e : X.K = K) : IxR X (rIxT K) := by
  subst e
  exact ix_tup
theorem ixlK (K : PySem.W.Frag) (e : X.K = K) : IxR X (rIxL K) := by
  subst e
  exact ix_list
theorem slK (K : PySem.W.Frag) (e : X.K = K) : SlR X (rSlA K) := by
  subst e
  exact sl_tupA
theorem catK (K : PySem.W.Frag) (e : X.K = K) : OpR X (binaryOp .Add) (rCatA K) := by
  subst e
  exact op_catA
theorem lenK (K : PySem.W.Frag) (e : X.K = K) : CallR X (.builtin "len") (fun xs H Q => ∃ p ys, xs = [.ref p] ∧ (SqL K H p ys ∨ SqT K H p ys) ∧ Q (.int ys.length) H) := by
  subst e
  exact call_len_seq
theorem isiK (K : PySem.W.Frag) (e : X.K = K) : CallR X (.builtin "isinstance") (rIsi K) := by
  subst e
  exact call_isi
end
end Lp

/-! The small defs: is_int, is_in, periods_of, kept. -/
namespace Lp
open PySem PySem.Spec PyProof.Rows L2 LpR
section
variable {P : Program} {w : World} {K : PySem.W.Frag} {mg : Str → Option Value} {base : Heap}
theorem ty_int (H : Hp) (i : Int) : TyX K H (.int i) (.type "int") := .base (.int i)
theorem ty_tup {H : Hp} {a : Addr} {xs : List V} (h : H a = some (.tup xs)) : TyX K H (.ref a) (.type "tuple") := .base (.tup h)
theorem kb1 : kitB "int" "int" = some true := by decide +kernel
theorem kb2 : kitB "int" "bool" = some false := by decide +kernel
theorem kb3 : kitB "tuple" "tuple" = some true := by decide +kernel
def sp_isint : Sp := fun vs H Q _ => ∃ i : Int, vs = [.int i] ∧ Q (.bl true) H
theorem ok_isint (T : Txt K mg) : Ok P w K mg base 1 "is_int" ["value"] sp_isint := by
  refine T.d_isint.ok fun f fd F => ?_
  refine F.ok sc_isint (fun vs H Q E h => ?_) (fun cdv A outer s H vs Q E hr h => ?_)
  · obtain ⟨i, rfl, _⟩ := h
    rfl
  · obtain ⟨i, rfl, q⟩ := h
    refine ⟨_, (pss_one (ps_ret (pe_and (pe_callB call_isi (by rfl) T.z_isinstance (by decide +kernel) (pa_cons (pv 0) (pa_cons (pe_bltn (v := .ty "int") (by rfl) T.z_int (by decide +kernel) rfl) pa_nil))) (pe_one (pe_not (pe_callB call_isi (by rfl) T.z_isinstance (by decide +kernel) (pa_cons (pv 0) (pa_cons (pe_bltn (v := .ty "bool") (by rfl) T.z_bool (by decide +kernel) rfl) pa_nil)))))))), ?_⟩
    refine ⟨_, rfl, _, _, _, _, _, rfl, .ty "int", ty_int _ i, kit_ty kb1, true, rfl, ?_⟩
    refine iteT ?_
    exact ⟨_, rfl, _, _, _, _, _, rfl, .ty "bool", ty_int _ i, kit_ty kb2, false, rfl, q⟩
def sp_isin : Sp := fun vs H Q _ => ∃ i l m : Int, vs = [.int i, .int l, .int m] ∧ Q (.bl (decide (l ≤ i) && decide (i ≤ m))) H
theorem ok_isin (T : Txt K mg) : Ok P w K mg base 2 "is_in" ["value", "least", "most"] sp_isin := by
  obtain ⟨f_isint, fd_isint, G_isint, g_isint, k_isint, b_isint⟩ := ok_isint (P := P) (w := w) (base := base) T
  refine T.d_isin.ok fun f fd F => ?_
  refine F.ok sc_isin (fun vs H Q E h => ?_) (fun cdv A outer s H vs Q E hr h => ?_)
  · obtain ⟨i, l, m, rfl, _⟩ := h
    rfl
  · obtain ⟨i, l, m, rfl, q⟩ := h
    refine ⟨_, (pss_one (ps_ret (pe_and (pe_call G_isint (hr.mono (by decide)) (by rfl) g_isint k_isint b_isint .nil pass0 (pa_cons (pv 0) pa_nil)) (pe_one (pe_chain op_le op_le (pv 1) (pv 0) (pv 2)))))), ?_⟩
    refine ⟨_, rfl, i, rfl, true, rfl, iteT ?_⟩
    refine ⟨_, rfl, _, rfl, _, _, rfl, rfl, _, rfl, ?_⟩
    refine ite2 (fun h => ?_) (fun h => ?_)
    · rw [h, Bool.true_and] at q
      exact ⟨_, rfl, _, _, rfl, rfl, q⟩
    · rw [Bool.eq_false_iff.mpr h, Bool.false_and] at q
      exact q
def sp_periodsof : Sp := fun vs H Q _ => ∃ (p a b c e : Addr) (ns : List Int), vs = [.ref p] ∧ H p = some (.tup [.ref a, .ref b, .ref c, .ref e]) ∧ TI H a ns ∧ Q (.int (ns.length : Nat)) H
theorem ok_periodsof (T : Txt K mg) : Ok P w K mg base 1 "periods_of" ["problem"] sp_periodsof := by
  refine T.d_periodsof.ok fun f fd F => ?_
  refine F.ok sc_periodsof (fun vs H Q E h => ?_) (fun cdv A outer s H vs Q E hr h => ?_)
  · obtain ⟨p, a, b, c, e, ns, rfl, _⟩ := h
    rfl
  · obtain ⟨p, a, b, c, e, ns, rfl, hp, ha, q⟩ := h
    refine ⟨_, (pss_one (ps_ret (pe_callB call_len_seq (by rfl) T.z_len PySem.boot_len (pa_cons (pe_ix ix_tup (pv 0) pe_int (fun _ _ => rfl)) pa_nil)))), ?_⟩
    refine ⟨_, rfl, p, _, 0, _, rfl, rfl, SqT.of hp, at0, a, _, rfl, .inr (SqT.of ha), ?_⟩
    rw [List.length_map]
    exact q
/-- making at a, keeping until b -/
def kept (P : Pb) (a b : Nat) : Int := g P.u a + seg P.h a b
def sp_kept : Sp := fun vs H Q _ => ∃ (p a b c e : Addr) (Z : Pb) (n i j : Nat), vs = [.ref p, .int (i : Int), .int (j : Int)] ∧ PAt H p Z a b c e ∧ Wf Z n ∧ i < n ∧ j ≤ n ∧ ∀ H', Same H H' → Q (.int (kept Z i j)) H'
theorem ok_kept (T : Txt K mg) : Ok P w K mg base 1 "kept" ["problem", "start", "goal"] sp_kept := by
  refine T.d_kept.ok fun f fd F => ?_
  refine F.ok sc_kept (fun vs H Q E h => ?_) (fun cdv A outer s H vs Q E hr h => ?_)
  · obtain ⟨p, a, b, c, e, Z, n, i, j, rfl, _⟩ := h
    rfl
  · obtain ⟨p, a, b, c, e, Z, n, i, j, rfl, hp, wf, hi, hj, q⟩ := h
    refine ⟨_, (pss_one (ps_ret (pe_op op_add (pe_ix ix_tup (pe_ix ix_tup (pv 0) pe_int (fun _ _ => rfl)) (pv 1) (fun _ _ => rfl)) (pe_callB (cr_sumT rfl) (by rfl) T.z_sum (by decide +kernel) (pa_cons (pe_slice sl_tupA (pe_ix ix_tup (pv 0) pe_int (fun _ _ => rfl)) (po_some (pv 1)) (po_some (pv 2))) pa_nil))))), ?_⟩
    refine ⟨_, rfl, p, _, 2, _, rfl, rfl, SqT.of hp.top, at2, _, rfl, c, _, _, _, rfl, rfl, SqT.of hp.u, g_at (by rw [wf.lu]; exact hi), ?_⟩
    refine ⟨_, rfl, p, _, 3, _, rfl, rfl, SqT.of hp.top, at3, _, rfl, _, rfl, _, rfl, _, rfl, ?_⟩
    refine sl_read hp.h (cut_map _ _ _ (by rw [wf.lh]; omega) (by rw [wf.lh]; exact hj)) fun t H1 s1 ht => ?_
    exact ⟨t, _, rfl, SqT.of ht, _, _, rfl, rfl, q H1 s1⟩
end
end Lp

/-! stock_row, cost_of, lot_cost, stages. -/
namespace Lp
open PySem PySem.Spec PyProof.Rows L2 LpR
/-- the stock at the end of period i -/
def stk (ds xs : List Int) (i : Nat) : Int := (xs.take (i + 1)).sum - (ds.take (i + 1)).sum
section
variable {P : Program} {w : World} {K : PySem.W.Frag} {mg : Str → Option Value} {base : Heap}
def sp_stockrow : Sp := fun vs H Q _ => ∃ (a b : Addr) (ds xs : List Int), vs = [.ref a, .ref b] ∧ TI H a ds ∧ TI H b xs ∧ ds.length = xs.length ∧ ds.length ≤ 12 ∧
  ∀ H' o, Same H H' → H o = none → H' o = some (.lst (((List.range ds.length).map (stk ds xs)).map V.int)) → Q (.ref o) H'
theorem ok_stockrow (T : Txt K mg) : Ok P w K mg base 1 "stock_row" ["demands", "amounts"] sp_stockrow := by
  refine T.d_stockrow.ok fun f fd F => ?_
  refine F.ok sc_stockrow (fun vs H Q E h => ?_) (fun cdv A outer s H vs Q E hr h => ?_)
  · obtain ⟨a, b, ds, xs, rfl, _⟩ := h
    rfl
  · obtain ⟨a, b, ds, xs, rfl, ha, hb, hl, h12, q⟩ := h
    refine ⟨_, (pss_cons (ps_par (i := 2) (j := 3) rfl sc_stockrow.nd rfl rfl (by decide) rfl rfl (pa_cons (pe_lst pa_nil) (pa_cons pe_int pa_nil)) (by rfl))
      (pss_cons (ps_for PassesOwn.never rfl (RZ.pi_zipA (by rfl) T.z_zip (pa_cons (pv 1) (pa_cons (pv 0) pa_nil))) (pg_tup rfl (pgs_cons (pg_name (i := 4) sc_stockrow.nd rfl (.inl rfl)) (pgs_cons (pg_name (i := 5) sc_stockrow.nd rfl (.inl rfl)) pgs_nil)))
        (pss_cons (ps_aug (i := 3) sc_stockrow.nd rfl (.inl rfl) (pe_op op_sub (pv 4) (pv 5)) ip_add)
          (pss_one (ps_expr (pe_bm PySem.F.plainAttrs_list PySem.F.slot_list_append PySem.F.type_list_append mt_append (pv 2) (pa_cons (pv 3) pa_nil))))))
      (pss_one (ps_ret (pv 2))))), ?_⟩
    refine ⟨Nat.zero_le _, fun o no => ?_⟩
    refine ⟨_, _, rfl, ?_⟩
    have s0 : Same H (upd H o (.lst [])) := same_upd no
    refine ⟨_, rfl, _, rfl, b, a, _, _, rfl, .inr ⟨SqT.of (s0 _ _ hb), SqT.of (s0 _ _ ha), ?_⟩⟩
    refine for_zip2 (by rw [List.length_map, List.length_map, hl]) (fun i σ H1 => ∃ z y4 y5, σ = [some (.ref a), some (.ref b), some (.ref o), some (.int z), y4, y5] ∧ z = (xs.take i).sum - (ds.take i).sum ∧ i ≤ ds.length ∧ Same H H1 ∧ H1 o = some (.lst (((List.range i).map (stk ds xs)).map V.int)))
      ⟨0, none, none, rfl, rfl, Nat.zero_le _, s0, upd_same⟩ (fun i σ H1 ⟨_, _, _, _, _, _, s1, _⟩ => ⟨s1 _ _ hb, s1 _ _ ha⟩) (fun i x y σ H1 H2 hx hy ⟨z, y4, y5, e, ez, hi, s1, ho⟩ s2 => ?_) (fun σ H1 ⟨z, y4, y5, e, ez, hi, s1, ho⟩ => ?_)
    · subst e
      have hi1 : i < xs.length := by
        have := (List.getElem?_eq_some_iff.mp hx).1
        rwa [List.length_map] at this
      have hi2 : i < ds.length := by omega
      rw [List.getElem?_map, g_get hi1] at hx
      rw [List.getElem?_map, g_get hi2] at hy
      cases hx
      cases hy
      refine ⟨_, rfl, _, rfl, _, rfl, _, _, rfl, rfl, _, _, rfl, rfl, ?_⟩
      have ex : (xs.take (i + 1)).sum = (xs.take i).sum + g xs i := sum_take (g_get hi1)
      have ed : (ds.take (i + 1)).sum = (ds.take i).sum + g ds i := sum_take (g_get hi2)
      have e1 : z + (g xs i - g ds i) = (xs.take (i + 1)).sum - (ds.take (i + 1)).sum := by omega
      refine ⟨_, rfl, .inl ⟨rfl, _, SqL.of (s2 _ _ ho)⟩, _, rfl, o, _, _, rfl, rfl, s2 _ _ ho, ?_, ?_⟩
      · rw [List.length_map, List.length_map, List.length_range]
        exact small1000 (by omega)
      · refine ⟨_, _, _, rfl, e1, hi2, fun b' z hz => ?_, ?_⟩
        · rw [upd_ne (ne_of_none hz no)]
          exact s2 _ _ (s1 _ _ hz)
        · rw [upd_same, List.range_succ, List.map_append, List.map_append]
          exact congrArg (fun z => some (HO.lst (_ ++ [V.int z]))) e1
    · subst e
      refine ⟨_, rfl, ?_⟩
      rw [List.length_map, ← hl] at ho
      exact q H1 o s1 no ho
end
end Lp

/-! cost_of, lot_cost, stages. -/
namespace Lp
open PySem PySem.Spec PyProof.Rows L2 LpR
/-- the cost of the first periods -/
def cpre (Z : Pb) (xs : List Int) : Nat → Int
  | 0 => 0
  | i + 1 => cpre Z xs i + (g Z.h i * stk Z.d xs i + g Z.u i * g xs i) + (if 0 < g xs i then g Z.s i else 0)
def lotv (Z : Pb) (a b : Nat) : Int := ((List.range (b - a)).map fun i => (fun t => kept Z a t * g Z.d t) (a + i)).sum
def lotc (Z : Pb) (a b : Nat) : Int := if seg Z.d a b = 0 then 0 else g Z.s a + lotv Z a b
structure StOk (Z : Pb) (t : List Int) (m : Nat) : Prop where
  len : t.length = m + 1
  zero : g t 0 = 0
  ex : ∀ e, 1 ≤ e → e ≤ m → ∃ s, s < e ∧ g t e = g t s + lotc Z s e
  le : ∀ e s, e ≤ m → s < e → g t e ≤ g t s + lotc Z s e
theorem stk_get {ds xs : List Int} {n i : Nat} {x : V} (h : (((List.range n).map (stk ds xs)).map V.int)[i]? = some x) : i < n ∧ x = .int (stk ds xs i) := by
  rw [List.getElem?_map, List.getElem?_map] at h
  by_cases hi : i < n
  · rw [List.getElem?_range hi] at h
    cases h
    exact ⟨hi, rfl⟩
  · rw [List.getElem?_eq_none (by rw [List.length_range]; omega)] at h
    cases h
theorem Wf.h0 {Z : Pb} {n i : Nat} (wf : Wf Z n) (hi : i < n) : 0 ≤ g Z.h i ∧ g Z.h i ≤ 999 := wf.bh _ (g_mem (by rw [wf.lh]; exact hi))
theorem Wf.u0 {Z : Pb} {n i : Nat} (wf : Wf Z n) (hi : i < n) : 0 ≤ g Z.u i ∧ g Z.u i ≤ 999 := wf.bu _ (g_mem (by rw [wf.lu]; exact hi))
theorem Wf.d0 {Z : Pb} {n i : Nat} (wf : Wf Z n) (hi : i < n) : 0 ≤ g Z.d i ∧ g Z.d i ≤ 999 := wf.bd _ (g_mem (by rw [wf.ld]; exact hi))
section
variable {P : Program} {w : World} {K : PySem.W.Frag} {mg : Str → Option Value} {base : Heap}
def sp_costof : Sp := fun vs H Q _ => ∃ (p q a b c e : Addr) (Z : Pb) (n : Nat) (xs : List Int), vs = [.ref p, .ref q] ∧ PAt H p Z a b c e ∧ Wf Z n ∧ TI H q xs ∧ xs.length = n ∧ ∀ H', Same H H' → Q (.int (cpre Z xs n)) H'
theorem ok_costof (T : Txt K mg) : Ok P w K mg base 2 "cost_of" ["problem", "plan"] sp_costof := by
  obtain ⟨f_stockrow, fd_stockrow, G_stockrow, g_stockrow, k_stockrow, b_stockrow⟩ := ok_stockrow (P := P) (w := w) (base := base) T
  refine T.d_costof.ok fun f fd F => ?_
  refine F.ok sc_costof (fun vs H Q E h => ?_) (fun cdv A outer s H vs Q E hr h => ?_)
  · obtain ⟨p, q, a, b, c, e, Z, n, xs, rfl, _⟩ := h
    rfl
  · obtain ⟨p, q, a, b, c, e, Z, n, xs, rfl, hp, wf, hx, hl, k⟩ := h
    refine ⟨_, (pss_cons (ps_set (i := 2) sc_costof.nd rfl (.inl rfl) pe_int)
      (pss_cons (ps_for PassesOwn.never rfl (pi_enum (by rfl) T.z_enumerate (pa_cons (pe_call G_stockrow (hr.mono (by decide)) (by rfl) g_stockrow k_stockrow b_stockrow .nil pass0 (pa_cons (pe_ix ix_tup (pv 0) pe_int (fun _ _ => rfl)) (pa_cons (pv 1) pa_nil))) pa_nil)) (pg_tup rfl (pgs_cons (pg_name (i := 3) sc_costof.nd rfl (.inl rfl)) (pgs_cons (pg_name (i := 4) sc_costof.nd rfl (.inl rfl)) pgs_nil)))
        (pss_cons (ps_aug (i := 2) sc_costof.nd rfl (.inl rfl) (pe_op op_add (pe_op op_mul (pe_ix ix_tup (pe_ix ix_tup (pv 0) pe_int (fun _ _ => rfl)) (pv 3) (fun _ _ => rfl)) (pv 4)) (pe_op op_mul (pe_ix ix_tup (pe_ix ix_tup (pv 0) pe_int (fun _ _ => rfl)) (pv 3) (fun _ _ => rfl)) (pe_ix ix_tup (pv 1) (pv 3) (fun _ _ => rfl)))) ip_add)
          (pss_one (ps_aug (i := 2) sc_costof.nd rfl (.inl rfl) (pe_ifExp (pt_cmpR op_gt (pe_ix ix_tup (pv 1) (pv 3) (fun _ _ => rfl)) pe_int (nomark _)) (pe_ix ix_tup (pe_ix ix_tup (pv 0) pe_int (fun _ _ => rfl)) (pv 3) (fun _ _ => rfl)) pe_int) ip_add))))
      (pss_one (ps_ret (pv 2))))), ?_⟩
    refine ⟨_, rfl, p, _, 0, _, rfl, rfl, SqT.of hp.top, at0, _, rfl, a, q, Z.d, xs, rfl, hp.d, hx, by rw [wf.ld, hl], by rw [wf.ld]; exact wf.n12, fun H1 o s1 no ho => ?_⟩
    refine ⟨o, _, rfl, SqL.of ho, ?_⟩
    refine for_enumL (fun i σ H2 => ∃ z y3 y4, σ = [some (.ref p), some (.ref q), some (.int z), y3, y4] ∧ z = cpre Z xs i ∧ Same H1 H2)
      ⟨0, none, none, rfl, rfl, Same.refl _⟩ (fun i σ H2 ⟨_, _, _, _, _, s2⟩ => s2 _ _ ho) (fun i x σ H2 H3 hx' ⟨z, y3, y4, e', ez, s2⟩ s3 => ?_) (fun σ H2 ⟨z, y3, y4, e', ez, s2⟩ => ?_)
    · subst e'
      obtain ⟨hi, rfl⟩ := stk_get hx'
      rw [wf.ld] at hi
      have s := s1.trans (s2.trans s3)
      have hp' := hp.same s
      have hx2 := hx.same s
      have ax : atI (xs.map V.int) (i : Int) = some (.int (g xs i)) := g_at (by rw [hl]; exact hi)
      have bh := wf.h0 hi
      have bu := wf.u0 hi
      refine ⟨_, rfl, _, rfl, p, _, 3, _, rfl, rfl, SqT.of hp'.top, at3, _, rfl, _, _, _, _, rfl, rfl, SqT.of hp'.h, g_at (by rw [wf.lh]; exact hi), _, rfl, _, _, rfl, rfl, mulL bh.1 (by omega), ?_⟩
      refine ⟨_, rfl, p, _, 2, _, rfl, rfl, SqT.of hp'.top, at2, _, rfl, _, _, _, _, rfl, rfl, SqT.of hp'.u, g_at (by rw [wf.lu]; exact hi), ?_⟩
      refine ⟨_, rfl, _, rfl, q, _, _, _, rfl, rfl, SqT.of hx2, ax, _, _, rfl, rfl, mulL bu.1 (by omega), _, _, rfl, rfl, _, _, rfl, rfl, ?_⟩
      refine ⟨_, rfl, _, rfl, _, rfl, q, _, _, _, rfl, rfl, SqT.of hx2, ax, _, _, rfl, rfl, _, rfl, ?_⟩
      refine ite2 (fun hg => ?_) (fun hg => ?_)
      · refine ⟨_, rfl, p, _, 1, _, rfl, rfl, SqT.of hp'.top, at1, _, rfl, _, _, _, _, rfl, rfl, SqT.of hp'.s, g_at (by rw [wf.ls]; exact hi), _, _, rfl, rfl, ?_⟩
        refine ⟨_, _, _, rfl, ?_, s2.trans s3⟩
        show z + (g Z.h i * stk Z.d xs i + g Z.u i * g xs i) + g Z.s i = _ + _ + _
        rw [ez, if_pos (of_decide_eq_true hg)]
      · refine ⟨_, _, rfl, rfl, ?_⟩
        refine ⟨_, _, _, rfl, ?_, s2.trans s3⟩
        show z + (g Z.h i * stk Z.d xs i + g Z.u i * g xs i) + 0 = _ + _ + _
        rw [ez, if_neg (fun z => hg (decide_eq_true z))]
    · subst e'
      refine ⟨_, rfl, ?_⟩
      rw [List.length_map, List.length_map, List.length_range, wf.ld] at ez
      rw [ez]
      exact k H2 (s1.trans s2)
def sp_lotcost : Sp := fun vs H Q _ => ∃ (p a b c e : Addr) (Z : Pb) (n i j : Nat), vs = [.ref p, .int (i : Int), .int (j : Int)] ∧ PAt H p Z a b c e ∧ Wf Z n ∧ i < n ∧ i ≤ j ∧ j ≤ n ∧ ∀ H', Same H H' → Q (.int (lotc Z i j)) H'
theorem ok_lotcost (T : Txt K mg) : Ok P w K mg base 2 "lot_cost" ["problem", "start", "end"] sp_lotcost := by
  obtain ⟨f_kept, fd_kept, G_kept, g_kept, k_kept, b_kept⟩ := ok_kept (P := P) (w := w) (base := base) T
  refine T.d_lotcost.ok fun f fd F => ?_
  refine F.ok sc_lotcost (fun vs H Q E h => ?_) (fun cdv A outer s H vs Q E hr h => ?_)
  · obtain ⟨p, a, b, c, e, Z, n, i, j, rfl, _⟩ := h
    rfl
  · obtain ⟨p, a, b, c, e, Z, n, i, j, rfl, hp, wf, hi, hij, hj, q⟩ := h
    refine ⟨_, (pss_cons (ps_if (pt_cmpR op_eq (pe_callB (cr_sumT rfl) (by rfl) T.z_sum (by decide +kernel) (pa_cons (pe_slice sl_tupA (pe_ix ix_tup (pv 0) pe_int (fun _ _ => rfl)) (po_some (pv 1)) (po_some (pv 2))) pa_nil)) pe_int (nomark _))
        (pss_one (ps_ret pe_int))
        pss_nil)
      (pss_one (ps_ret (pe_op op_add (pe_ix ix_tup (pe_ix ix_tup (pv 0) pe_int (fun _ _ => rfl)) (pv 1) (fun _ _ => rfl)) (pe_callB (cr_sum rfl) (by rfl) T.z_sum (by decide +kernel) (pa_cons (pe_lc (own := [("at", 3)]) (g := gName 3) (tt := tYes) rfl sc_lotcost.nd (pi_range2 (by rfl) T.z_range (pa_cons (pv 1) (pa_cons (pv 2) pa_nil))) (blkOk_by (own := [("at", 3)]) (N := N_lotcost) (sc := defScope s_lotcost) (by decide +kernel)) (fun _ _ _ _ _ => pg_name (i := 3) sc_lotcost.nd rfl (Or.inl rfl)) (fun _ _ _ _ _ => pts_nil) (fun _ _ _ _ _ => (pe_op op_mul (pe_call G_kept (hr.mono (by decide)) (by rfl) g_kept k_kept b_kept .nil pass0 (pa_cons (pv 0) (pa_cons (pv 1) (pa_cons (pv 3) pa_nil)))) (pe_ix (ixtK K rfl) (pe_ix (ixtK K rfl) (pv 0) pe_int (fun _ _ => rfl)) (pv 3) (fun _ _ => rfl))))) pa_nil)))))), ?_⟩
    refine ⟨_, rfl, p, _, 0, _, rfl, rfl, SqT.of hp.top, at0, _, rfl, _, rfl, _, rfl, _, rfl, ?_⟩
    refine sl_read hp.d (cut_map _ _ _ (by rw [wf.ld]; omega) (by rw [wf.ld]; exact hj)) fun t H1 s1 ht => ?_
    refine ⟨t, _, rfl, SqT.of ht, rfl, _, rfl, ?_⟩
    refine ite2 (fun h0 => ?_) (fun h0 => ?_)
    · have e0 : seg Z.d i j = 0 := V.int.inj (of_decide_eq_true h0)
      have e1 : lotc Z i j = 0 := if_pos e0
      rw [e1] at q
      exact q H1 s1
    · have e0 : ¬ seg Z.d i j = 0 := fun z => h0 (decide_eq_true (congrArg V.int z))
      have e1 : lotc Z i j = g Z.s i + lotv Z i j := if_neg e0
      rw [e1] at q
      have hp1 := hp.same s1
      have n12 := wf.n12
      refine ⟨_, rfl, p, _, 1, _, rfl, rfl, SqT.of hp1.top, at1, _, rfl, _, _, _, _, rfl, rfl, SqT.of hp1.s, g_at (by rw [wf.ls]; exact hi), ?_⟩
      refine ⟨_, rfl, _, rfl, _, _, rfl, ⟨by omega, by omega, by omega, by omega⟩, fun D hD => ?_⟩
      refine lc_range_ints (fun t => kept Z i t * g Z.d t) rfl (by have := wf.n12; omega) hD (fun r H2 R hr' s2 k => ⟨rfl, ?_⟩) (fun H2 s2 hl => ?_)
      · have hrn : i + r < n := by omega
        have hp2 := hp1.same s2
        refine ⟨_, rfl, _, rfl, _, rfl, p, a, b, c, e, Z, n, i, i + r, rfl, hp2, wf, hi, by omega, fun H3 s3 => ?_⟩
        have hp3 := hp2.same s3
        have bd := wf.d0 hrn
        exact ⟨_, rfl, p, _, 0, _, rfl, rfl, SqT.of hp3.top, at0, _, rfl, _, _, _, _, rfl, rfl, SqT.of hp3.d, g_at (by rw [wf.ld]; exact hrn), _, _, rfl, rfl, mulR bd.1 (by omega), k H3 s3⟩
      · refine ⟨D, _, rfl, SqL.of hl, _, _, rfl, rfl, ?_⟩
        have eN : ((j : Int) - (i : Int)).toNat = j - i := by omega
        rw [eN]
        exact q H2 (s1.trans s2)
def sp_stages : Sp := fun vs H Q _ => ∃ (p a b c e : Addr) (Z : Pb) (n : Nat), vs = [.ref p] ∧ PAt H p Z a b c e ∧ Wf Z n ∧ ∀ H' o t, Same H H' → H' o = some (.lst (t.map V.int)) → StOk Z t n → Q (.ref o) H'
theorem ok_stages (T : Txt K mg) : Ok P w K mg base 3 "stages" ["problem"] sp_stages := by
  obtain ⟨f_periodsof, fd_periodsof, G_periodsof, g_periodsof, k_periodsof, b_periodsof⟩ := ok_periodsof (P := P) (w := w) (base := base) T
  obtain ⟨f_lotcost, fd_lotcost, G_lotcost, g_lotcost, k_lotcost, b_lotcost⟩ := ok_lotcost (P := P) (w := w) (base := base) T
  refine T.d_stages.ok fun f fd F => ?_
  refine F.ok sc_stages (fun vs H Q E h => ?_) (fun cdv A outer s H vs Q E hr h => ?_)
  · obtain ⟨p, a, b, c, e, Z, n, rfl, _⟩ := h
    rfl
  · obtain ⟨p, a, b, c, e, Z, n, rfl, hp, wf, q⟩ := h
    have n12 := wf.n12
    refine ⟨_, (pss_cons (ps_set (i := 1) sc_stages.nd rfl (.inr rfl) (pe_lst (pa_cons pe_int pa_nil)))
      (pss_cons (ps_for PassesOwn.never rfl (pi_range2 (by rfl) T.z_range (pa_cons pe_int (pa_cons (pe_op op_add (pe_call G_periodsof (hr.mono (by decide)) (by rfl) g_periodsof k_periodsof b_periodsof .nil pass0 (pa_cons (pv 0) pa_nil)) pe_int) pa_nil))) (pg_name (i := 2) sc_stages.nd rfl (.inr rfl))
        (pss_one (ps_expr (pe_bm PySem.F.plainAttrs_list PySem.F.slot_list_append PySem.F.type_list_append mt_append (pv 1) (pa_cons (pe_callB (cr_min rfl) (by rfl) T.z_min (by decide +kernel) (pa_cons (pe_lc (own := [("start", 3)]) (g := gName 3) (tt := tYes) rfl sc_stages.nd (pi_range1 (by rfl) T.z_range (pa_cons (pv 2) pa_nil)) (blkOk_by (own := [("start", 3)]) (N := N_stages) (sc := defScope s_stages) (by decide +kernel)) (fun _ _ _ _ _ => pg_name (i := 3) sc_stages.nd rfl (Or.inl rfl)) (fun _ _ _ _ _ => pts_nil) (fun _ _ _ _ _ => (pe_op op_add (pe_ix (ixlK K rfl) (pv 1) (pv 3) (fun _ _ => rfl)) (pe_call G_lotcost (hr.mono (by decide)) (by rfl) g_lotcost k_lotcost b_lotcost .nil pass0 (pa_cons (pv 0) (pa_cons (pv 3) (pa_cons (pv 2) pa_nil))))))) pa_nil)) pa_nil)))))
      (pss_one (ps_ret (pv 1))))), ?_⟩
    refine ⟨len1000 (by show 1 ≤ 1000; omega), fun o no => ?_⟩
    have s0 : Same H (upd H o (.lst [.int 0])) := same_upd no
    have hp0 := hp.same s0
    refine ⟨_, rfl, p, a, b, c, e, Z.d, rfl, hp0.top, hp0.d, _, _, rfl, rfl, _, _, rfl, ⟨by omega, by omega, by omega, by rw [wf.ld]; omega⟩, ?_⟩
    have eN : (((Z.d.length : Nat) : Int) + 1 - 1).toNat = n := by rw [wf.ld]; omega
    rw [eN]
    refine for_rangeN (lo := 1) rfl (fun i σ H1 => ∃ y2 y3 t, σ = [some (.ref p), some (.ref o), y2, y3] ∧ i ≤ n ∧ Same H H1 ∧ H1 o = some (.lst (t.map V.int)) ∧ StOk Z t i)
      ⟨none, none, [0], rfl, Nat.zero_le _, s0, upd_same, rfl, rfl, fun e h1 h2 => by omega, fun e s h1 h2 => by omega⟩ (fun i σ H1 hi ⟨y2, y3, t, e', _, s1, ho, st⟩ => ?_) (fun σ H1 ⟨y2, y3, t, e', _, s1, ho, st⟩ => ?_)
    · subst e'
      have hl : t.length ≤ 1000 := by rw [st.len]; omega
      refine ⟨_, rfl, .inl ⟨rfl, _, SqL.of ho⟩, ?_⟩
      refine ⟨_, rfl, _, rfl, by omega, by omega, fun D hD => ?_⟩
      refine lc_range_ints (lo := 0) (fun r => g t r + lotc Z r (1 + i)) rfl (by omega) hD (fun r H2 R hr' s2 k => ⟨rfl, ?_⟩) (fun H2 s2 hD2 => ?_)
      · rw [Int.toNat_natCast] at hr'
        have hrt : 0 + r < t.length := by rw [st.len]; omega
        refine ⟨_, rfl, _, rfl, o, _, _, _, rfl, rfl, SqL.of (s2 _ _ ho), g_at hrt, ?_⟩
        refine ⟨_, rfl, _, rfl, _, rfl, p, a, b, c, e, Z, n, 0 + r, 1 + i, rfl, hp.same (s1.trans s2), wf, by omega, by omega, by omega, fun H3 s3 => ?_⟩
        exact ⟨_, _, rfl, rfl, k H3 s3⟩
      · rw [Int.toNat_natCast] at hD2
        refine ⟨D, _, rfl, SqL.of hD2, ?_, fun m hm hle => ?_⟩
        · rw [List.length_map, List.length_range]
          omega
        refine ⟨o, _, _, rfl, rfl, s2 _ _ ho, by rw [List.length_map]; exact small1000 hl, _, _, t ++ [m], rfl, hi, fun b' z hz => ?_, ?_, ?_⟩
        · rw [upd_ne (ne_of_none hz no)]
          exact s2 _ _ (s1 _ _ hz)
        · rw [upd_same, List.map_append]
          rfl
        · obtain ⟨r0, hr0, er0⟩ := List.mem_map.mp hm
          rw [List.mem_range] at hr0
          have gl : ∀ r, r < i + 1 → g (t ++ [m]) r = g t r := fun r hr => by
            unfold g
            rw [List.getD_eq_getElem?_getD, List.getD_eq_getElem?_getD, List.getElem?_append_left (by rw [st.len]; exact hr)]
          have gm : g (t ++ [m]) (i + 1) = m := by
            unfold g
            rw [List.getD_eq_getElem?_getD, List.getElem?_append_right (by rw [st.len]; exact Nat.le_refl _), st.len, Nat.sub_self]
            rfl
          refine ⟨by rw [List.length_append, st.len]; rfl, by rw [gl 0 (by omega)]; exact st.zero, fun e h1 h2 => ?_, fun e s h1 h2 => ?_⟩
          · by_cases he : e ≤ i
            · obtain ⟨s, hs, es⟩ := st.ex e h1 he
              exact ⟨s, hs, by rw [gl e (by omega), gl s (by omega)]; exact es⟩
            · have ee : e = i + 1 := by omega
              subst ee
              refine ⟨r0, by omega, ?_⟩
              rw [gm, gl r0 (by omega), ← er0, Nat.zero_add, Nat.add_comm 1 i]
          · by_cases he : e ≤ i
            · rw [gl e (by omega), gl s (by omega)]
              exact st.le e s he h2
            · have ee : e = i + 1 := by omega
              subst ee
              rw [gm, gl s h2]
              refine hle _ (List.mem_map.mpr ⟨s, List.mem_range.mpr (by omega), ?_⟩)
              rw [Nat.zero_add, Nat.add_comm 1 i]
    · subst e'
      exact ⟨_, rfl, q H1 o t s1 ho st⟩
end
end Lp

/-! without. -/
namespace Lp
open PySem PySem.Spec PyProof.Rows L2 LpR
theorem seg_nonneg {l : List Int} (h : ∀ x ∈ l, 0 ≤ x) (a b : Nat) : 0 ≤ seg l a b := by
  have : ∀ m : List Int, (∀ x ∈ m, 0 ≤ x) → 0 ≤ m.sum := by
    intro m
    induction m with
    | nil => intro _; exact Int.le_refl 0
    | cons x r ih =>
      intro hm
      rw [List.sum_cons]
      have h1 := hm x (List.mem_cons_self ..)
      have h2 := ih fun y hy => hm y (List.mem_cons_of_mem _ hy)
      omega
  exact this _ fun x hx => h x (List.mem_of_mem_drop (List.mem_of_mem_take hx))
theorem Wf.segd {Z : Pb} {n : Nat} (wf : Wf Z n) (a b : Nat) : 0 ≤ seg Z.d a b := seg_nonneg (fun x hx => (wf.bd x hx).1) a b
def oV : Option Int → V
  | none => .non
  | some i => .int i
def ot (t : List (Option Int)) (s : Nat) : Option Int := t.getD s none
theorem ot_at {t : List (Option Int)} {s : Nat} (h : s < t.length) : atI (t.map oV) (s : Int) = some (oV (ot t s)) := by
  refine atI_nat ?_
  unfold ot
  rw [List.getElem?_map, List.getD_eq_getElem?_getD, List.getElem?_eq_getElem h]
  rfl
theorem at_neg1 {α : Type} {xs : List α} {v : α} {n : Nat} (hl : xs.length = n + 1) (h : xs[n]? = some v) : atI xs (-1) = some v := by
  unfold atI ixN
  rw [if_neg (by omega), if_pos (by omega), hl]
  have e : ((-1 : Int) + ((n + 1 : Nat) : Int)).toNat = n := by omega
  rw [e]
  exact h
structure WtOk (Z : Pb) (k : Nat) (t : List (Option Int)) (m : Nat) : Prop where
  len : t.length = m + 1
  zero : ot t 0 = some 0
  ex : ∀ e v, 1 ≤ e → e ≤ m → ot t e = some v → ∃ s u, s < e ∧ ot t s = some u ∧ (s ≠ k ∨ seg Z.d s e = 0) ∧ v = u + lotc Z s e
  le : ∀ e s u, e ≤ m → s < e → ot t s = some u → (s ≠ k ∨ seg Z.d s e = 0) → ∃ v, ot t e = some v ∧ v ≤ u + lotc Z s e
theorem dpAll_ints {K : PySem.W.Frag} {H : Hp} : ∀ ns : List Int, DpAll K H (ns.map V.int) (ns.map PyData.int)
  | [] => .nil
  | n :: r => .cons (.int n) (dpAll_ints r)
theorem canAll : ∀ ns : List Int, PyData.canLayAll0 (ns.map PyData.int) = true
  | [] => by rfl
  | n :: r => by
    rw [List.map_cons, PyData.canLayAll0, canAll r]
    rfl
theorem depAll : ∀ ns : List Int, PyData.depthAll (ns.map PyData.int) = 0
  | [] => by rfl
  | n :: r => by
    rw [List.map_cons, PyData.depthAll, depAll r]
    rfl
theorem shaped_l (ns : List Int) : SeqAt.shaped (.list (ns.map PyData.int)) = true := by
  unfold SeqAt.shaped
  rw [PyData.canLay0, PyData.depth, canAll, depAll]
  rfl
theorem shaped_t (ns : List Int) : SeqAt.shaped (.tuple (ns.map PyData.int)) = true := by
  unfold SeqAt.shaped
  rw [PyData.canLay0, PyData.depth, canAll, depAll]
  rfl
/-- what the inner loop has gathered -/
structure FitOk (Z : Pb) (k : Nat) (t : List (Option Int)) (e i : Nat) (fs : List Int) : Prop where
  ex : ∀ v ∈ fs, ∃ s u, s < i ∧ ot t s = some u ∧ (s ≠ k ∨ seg Z.d s e = 0) ∧ v = u + lotc Z s e
  le : ∀ s u, s < i → ot t s = some u → (s ≠ k ∨ seg Z.d s e = 0) → u + lotc Z s e ∈ fs
  len : fs.length ≤ i
theorem FitOk.skip {Z : Pb} {k : Nat} {t : List (Option Int)} {e i : Nat} {fs : List Int} (F : FitOk Z k t e i fs) (h : ∀ u, ot t i = some u → ¬ (i ≠ k ∨ seg Z.d i e = 0)) : FitOk Z k t e (i + 1) fs := by
  refine ⟨fun v hv => ?_, fun s u hs hu ho => ?_, Nat.le_succ_of_le F.len⟩
  · obtain ⟨s, u, h1, h2⟩ := F.ex v hv
    exact ⟨s, u, Nat.lt_succ_of_lt h1, h2⟩
  · by_cases hsi : s < i
    · exact F.le s u hsi hu ho
    · have : s = i := by omega
      subst this
      exact absurd ho (h u hu)
theorem FitOk.more {Z : Pb} {k : Nat} {t : List (Option Int)} {e i : Nat} {fs : List Int} {u v : Int} (F : FitOk Z k t e i fs) (hu : ot t i = some u) (ho : i ≠ k ∨ seg Z.d i e = 0) (hv : v = u + lotc Z i e) : FitOk Z k t e (i + 1) (fs ++ [v]) := by
  refine ⟨fun x hx => ?_, fun s u' hs hu' ho' => ?_, by rw [List.length_append]; exact Nat.succ_le_succ F.len⟩
  · rcases List.mem_append.mp hx with hx | hx
    · obtain ⟨s, u, h1, h2⟩ := F.ex x hx
      exact ⟨s, u, Nat.lt_succ_of_lt h1, h2⟩
    · rw [List.mem_singleton] at hx
      subst hx
      exact ⟨i, u, Nat.lt_succ_self _, hu, ho, hv⟩
  · by_cases hsi : s < i
    · exact List.mem_append_left _ (F.le s u' hsi hu' ho')
    · have : s = i := by omega
      subst this
      rw [hu] at hu'
      cases hu'
      rw [hv]
      exact List.mem_append_right _ (List.mem_singleton.mpr rfl)
theorem WtOk.more {Z : Pb} {k : Nat} {t : List (Option Int)} {m : Nat} {fs : List Int} {r : Option Int} (W : WtOk Z k t m) (F : FitOk Z k t (m + 1) (m + 1) fs) (h0 : fs = [] → r = none) (h1 : fs ≠ [] → ∃ v, r = some v ∧ v ∈ fs ∧ ∀ y ∈ fs, v ≤ y) : WtOk Z k (t ++ [r]) (m + 1) := by
  have gl : ∀ s, s < m + 1 → ot (t ++ [r]) s = ot t s := fun s hs => by
    unfold ot
    rw [List.getD_eq_getElem?_getD, List.getD_eq_getElem?_getD, List.getElem?_append_left (by rw [W.len]; exact hs)]
  have gm : ot (t ++ [r]) (m + 1) = r := by
    unfold ot
    rw [List.getD_eq_getElem?_getD, List.getElem?_append_right (by rw [W.len]; exact Nat.le_refl _), W.len, Nat.sub_self]
    rfl
  refine ⟨by rw [List.length_append, W.len]; rfl, by rw [gl 0 (by omega)]; exact W.zero, fun e v ha hb hv => ?_, fun e s u ha hb hu ho => ?_⟩
  · by_cases he : e ≤ m
    · rw [gl e (by omega)] at hv
      obtain ⟨s, u, h2, h3, h4⟩ := W.ex e v ha he hv
      exact ⟨s, u, h2, by rw [gl s (by omega)]; exact h3, h4⟩
    · have ee : e = m + 1 := by omega
      subst ee
      rw [gm] at hv
      by_cases hf : fs = []
      · rw [h0 hf] at hv
        cases hv
      · obtain ⟨v', e1, e2, e3⟩ := h1 hf
        rw [hv] at e1
        cases e1
        obtain ⟨s, u, h2, h3, h4⟩ := F.ex v e2
        exact ⟨s, u, h2, by rw [gl s h2]; exact h3, h4⟩
  · rw [gl s (by omega)] at hu
    by_cases he : e ≤ m
    · rw [gl e (by omega)]
      exact W.le e s u he hb hu ho
    · have ee : e = m + 1 := by omega
      subst ee
      have hm := F.le s u hb hu ho
      have hf : fs ≠ [] := fun z => by rw [z] at hm; cases hm
      obtain ⟨v', e1, e2, e3⟩ := h1 hf
      exact ⟨v', by rw [gm]; exact e1, e3 _ hm⟩
theorem or_read {σ : L2.St} {H : Hp} {Q : Bool → Hp → Prop} {i j m : Nat} {x y z : Int} (h1 : σ[i]? = some (some (.int x))) (h2 : σ[j]? = some (some (.int y))) (h3 : σ[m]? = some (some (.int z))) (q : Q (decide (x ≠ y ∨ z = 0)) H) :
    tOr (tTest (tOp rNe (tVar i) (tVar j))) (tTest (tOp rEq (tVar m) (tC (.int 0)))) σ H Q := by
  refine ⟨_, h1, _, h2, rfl, _, rfl, ?_⟩
  by_cases hxy : x = y
  · subst hxy
    rw [decide_eq_true (rfl : V.int x = V.int x)]
    refine iteF ⟨_, h3, rfl, _, rfl, ?_⟩
    by_cases hz : z = 0
    · rw [decide_eq_true (show V.int z = V.int 0 by rw [hz])]
      rw [decide_eq_true (.inr hz : x ≠ x ∨ z = 0)] at q
      exact q
    · rw [decide_eq_false (fun e => hz (V.int.inj e))]
      rw [decide_eq_false (fun e : x ≠ x ∨ z = 0 => e.elim (fun h => h rfl) hz)] at q
      exact q
  · rw [decide_eq_false (fun e => hxy (V.int.inj e))]
    rw [decide_eq_true (.inl hxy : x ≠ y ∨ z = 0)] at q
    exact iteT q
section
variable {P : Program} {w : World} {K : PySem.W.Frag} {mg : Str → Option Value} {base : Heap}
def sp_without : Sp := fun vs H Q _ => ∃ (p a b c e : Addr) (Z : Pb) (n k : Nat), vs = [.ref p, .int (k : Int)] ∧ PAt H p Z a b c e ∧ Wf Z n ∧ k < n ∧ ∀ H' t, Same H H' → WtOk Z k t n → Q (oV (ot t n)) H'
theorem ok_without (T : Txt K mg) : Ok P w K mg base 2 "without" ["problem", "period"] sp_without := by
  obtain ⟨f_periodsof, fd_periodsof, G_periodsof, g_periodsof, k_periodsof, b_periodsof⟩ := ok_periodsof (P := P) (w := w) (base := base) T
  obtain ⟨f_kept, fd_kept, G_kept, g_kept, k_kept, b_kept⟩ := ok_kept (P := P) (w := w) (base := base) T
  refine T.d_without.ok fun f fd F => ?_
  refine F.ok sc_without (fun vs H Q E h => ?_) (fun cdv A outer s H vs Q E hr h => ?_)
  · obtain ⟨p, a, b, c, e, Z, n, k, rfl, _⟩ := h
    rfl
  · obtain ⟨p, a, b, c, e, Z, n, k, rfl, hp, wf, hk, q⟩ := h
    have n12 := wf.n12
    refine ⟨_, (pss_cons (ps_set (i := 2) sc_without.nd rfl (.inl rfl) (pe_lst (pa_cons pe_int pa_nil)))
      (pss_cons (ps_for PassesOwn.never rfl (pi_range2 (by rfl) T.z_range (pa_cons pe_int (pa_cons (pe_op op_add (pe_call G_periodsof (hr.mono (by decide)) (by rfl) g_periodsof k_periodsof b_periodsof .nil pass0 (pa_cons (pv 0) pa_nil)) pe_int) pa_nil))) (pg_name (i := 3) sc_without.nd rfl (.inl rfl))
        (pss_cons (ps_set (i := 4) sc_without.nd rfl (.inl rfl) (pe_lst pa_nil))
          (pss_cons (ps_for PassesOwn.never rfl (pi_range1 (by rfl) T.z_range (pa_cons (pv 3) pa_nil)) (pg_name (i := 5) sc_without.nd rfl (.inr rfl))
            (pss_cons (ps_set (i := 6) sc_without.nd rfl (.inl rfl) (pe_callB (cr_sumT rfl) (by rfl) T.z_sum (by decide +kernel) (pa_cons (pe_slice sl_tupA (pe_ix ix_tup (pv 0) pe_int (fun _ _ => rfl)) (po_some (pv 5)) (po_some (pv 3))) pa_nil)))
              (pss_one (ps_if (PW.pt (pw_and (pt_cmpR op_notN (pe_ix ix_list (pv 2) (pv 5) (fun _ _ => rfl)) pe_non (nomark _)) (pw_and1 (PW.pt (pw_or (pt_cmpR op_ne (pv 5) (pv 1) (nomark _)) (pw_or1 (pt_cmpR op_eq (pv 6) pe_int (nomark _))))))))
                (pss_cons (ps_setLc (i := 7) (own := [("at", 8)]) (g := gName 8) (tt := tYes) rfl sc_without.nd rfl rfl (sw_true rfl rfl rfl (by decide +kernel)) (pi_range2 (by rfl) T.z_range (pa_cons (pv 5) (pa_cons (pv 3) pa_nil))) (blkOk_by (own := [("at", 8)]) (N := N_without) (sc := defScope s_without) (by decide +kernel)) (fun _ _ _ _ _ => pg_name (i := 8) sc_without.nd rfl (Or.inl rfl)) (fun _ _ _ _ _ => pts_nil) (fun _ _ _ _ _ => (pe_op op_mul (pe_call G_kept (hr.mono (by decide)) (by rfl) g_kept k_kept b_kept .nil pass0 (pa_cons (pv 0) (pa_cons (pv 5) (pa_cons (pv 8) pa_nil)))) (pe_ix (ixtK K rfl) (pe_ix (ixtK K rfl) (pv 0) pe_int (fun _ _ => rfl)) (pv 8) (fun _ _ => rfl)))))
                  (pss_one (ps_expr (pe_bm PySem.F.plainAttrs_list PySem.F.slot_list_append PySem.F.type_list_append mt_append (pv 4) (pa_cons (pe_op op_add (pe_ix ix_list (pv 2) (pv 5) (fun _ _ => rfl)) (pe_ifExp (pt_cmpR op_gt (pv 6) pe_int (nomark _)) (pe_op op_add (pe_ix ix_tup (pe_ix ix_tup (pv 0) pe_int (fun _ _ => rfl)) (pv 5) (fun _ _ => rfl)) (pe_callB (cr_sum rfl) (by rfl) T.z_sum (by decide +kernel) (pa_cons (pv 7) pa_nil))) pe_int)) pa_nil)))))
                pss_nil))))
          (pss_one (ps_expr (pe_bm PySem.F.plainAttrs_list PySem.F.slot_list_append PySem.F.type_list_append mt_append (pv 2) (pa_cons (pe_ifExp (pt_cmpR (op_neD hr.units) (pv 4) (pe_lst pa_nil) (nomark _)) (pe_callB (cr_min rfl) (by rfl) T.z_min (by decide +kernel) (pa_cons (pv 4) pa_nil)) pe_non) pa_nil)))))))
      (pss_one (ps_ret (pe_ix ix_list (pv 2) (pe_un un_neg pe_int) (fun _ _ => rfl)))))), ?_⟩
    refine ⟨len1000 (by show 1 ≤ 1000; omega), fun o no => ?_⟩
    have s0 : Same H (upd H o (.lst [.int 0])) := same_upd no
    have hp0 := hp.same s0
    refine ⟨_, rfl, p, a, b, c, e, Z.d, rfl, hp0.top, hp0.d, _, _, rfl, rfl, _, _, rfl, ⟨by omega, by omega, by omega, by rw [wf.ld]; omega⟩, ?_⟩
    have eN : (((Z.d.length : Nat) : Int) + 1 - 1).toNat = n := by rw [wf.ld]; omega
    rw [eN]
    refine for_rangeN (lo := 1) rfl (fun i σ H1 => ∃ y3 y4 y5 y6 y7 y8 t, σ = [some (.ref p), some (.int (k : Int)), some (.ref o), y3, y4, y5, y6, y7, y8] ∧ i ≤ n ∧ Same H H1 ∧ H1 o = some (.lst (t.map oV)) ∧ WtOk Z k t i)
      ⟨none, none, none, none, none, none, [some 0], rfl, Nat.zero_le _, s0, upd_same, rfl, rfl, fun e v h1 h2 => by omega, fun e s u h1 h2 => by omega⟩ (fun i σ H1 hi ⟨y3, y4, y5, y6, y7, y8, t, e', _, s1, ho, st⟩ => ?_) (fun σ H1 ⟨y3, y4, y5, y6, y7, y8, t, e', _, s1, ho, st⟩ => ?_)
    · subst e'
      have hl : t.length ≤ 1000 := by rw [st.len]; omega
      refine ⟨Nat.zero_le _, fun f nf => ?_⟩
      have sf : Same H1 (upd H1 f (.lst [])) := same_upd nf
      have hfo : o ≠ f := ne_of_none ho nf
      refine ⟨_, rfl, _, rfl, by omega, by omega, ?_⟩
      rw [Int.toNat_natCast]
      refine for_rangeN (lo := 0) rfl (fun s σ H2 => ∃ y5 y6 y7 y8 fs, σ = [some (.ref p), some (.int (k : Int)), some (.ref o), some (.int ((1 + i : Nat) : Int)), some (.ref f), y5, y6, y7, y8] ∧ s ≤ 1 + i ∧ Same H1 H2 ∧ H2 f = some (.lst (fs.map V.int)) ∧ FitOk Z k t (1 + i) s fs)
        ⟨y5, y6, y7, y8, [], rfl, Nat.zero_le _, sf, upd_same, ⟨fun v hv => absurd hv (List.not_mem_nil), fun s u hs => absurd hs (Nat.not_lt_zero _), Nat.le_refl _⟩⟩ (fun s σ H2 hs ⟨y5, y6, y7, y8, fs, e', _, s2, hf, F⟩ => ?_) (fun σ H2 ⟨y5, y6, y7, y8, fs, e', _, s2, hf, F⟩ => ?_)
      · subst e'
        have e0 : 0 + s = s := Nat.zero_add s
        have hp2 := hp.same (s1.trans s2)
        refine ⟨_, rfl, p, _, 0, _, rfl, rfl, SqT.of hp2.top, at0, _, rfl, _, rfl, _, rfl, _, rfl, ?_⟩
        refine sl_read hp2.d (cut_map _ _ _ (by rw [wf.ld]; omega) (by rw [wf.ld]; omega)) fun tt H3 s3 ht => ?_
        refine ⟨tt, _, rfl, SqT.of ht, ?_⟩
        have hlt : 0 + s < t.length := by rw [st.len]; omega
        have s23 := s2.trans s3
        refine ⟨_, rfl, _, rfl, o, _, _, _, rfl, rfl, SqL.of (s23 _ _ ho), ot_at hlt, rfl, _, rfl, ?_⟩
        cases hu : ot t (0 + s) with
        | none =>
          refine iteF ?_
          refine iteF ?_
          refine ⟨_, _, _, _, fs, rfl, hs, s23, s3 _ _ hf, F.skip fun u hu' => ?_⟩
          rw [e0] at hu
          rw [hu] at hu'
          cases hu'
        | some u =>
          refine iteT ?_
          refine or_read rfl rfl rfl ?_
          have hat : atI (t.map oV) ((0 + s : Nat) : Int) = some (.int u) := by
            rw [ot_at hlt, hu]
            rfl
          by_cases hc : (((0 + s : Nat) : Int) ≠ (k : Int) ∨ seg Z.d (0 + s) (1 + i) = 0)
          · rw [decide_eq_true (show (((0 + s : Nat) : Int) ≠ (k : Int) ∨ ((Z.d.drop (0 + s)).take (1 + i - (0 + s))).sum = 0) from hc)]
            refine iteT ?_
            have hc' : s ≠ k ∨ seg Z.d s (1 + i) = 0 := by
              rw [e0] at hc
              rcases hc with h | h
              · exact .inl fun z => h (by rw [z])
              · exact .inr h
            refine ⟨_, rfl, _, rfl, _, _, rfl, ⟨by omega, by omega, by omega, by omega⟩, fun D hD => ?_⟩
            refine lc_range_ints (lo := 0 + s) (fun r => kept Z (0 + s) r * g Z.d r) rfl (by omega) hD (fun r H4 R hr' s4 kk => ⟨rfl, ?_⟩) (fun H4 s4 hl4 => ?_)
            · have hrn : (0 + s) + r < n := by omega
              have hp4 := hp2.same (s3.trans s4)
              refine ⟨_, rfl, _, rfl, _, rfl, p, a, b, c, e, Z, n, 0 + s, (0 + s) + r, rfl, hp4, wf, by omega, by omega, fun H5 s5 => ?_⟩
              have hp5 := hp4.same s5
              have bd := wf.d0 hrn
              exact ⟨_, rfl, p, _, 0, _, rfl, rfl, SqT.of hp5.top, at0, _, rfl, _, _, _, _, rfl, rfl, SqT.of hp5.d, g_at (by rw [wf.ld]; exact hrn), _, _, rfl, rfl, mulR bd.1 (by omega), kk H5 s5⟩
            · have hp4 := hp2.same (s3.trans s4)
              have s24 := s23.trans s4
              have hf4 := s4 _ _ (s3 _ _ hf)
              refine ⟨_, rfl, .inl ⟨rfl, _, SqL.of hf4⟩, _, rfl, _, rfl, o, _, _, _, rfl, rfl, SqL.of (s24 _ _ ho), hat, ?_⟩
              have fin : ∀ v, v = u + lotc Z s (1 + i) → ∃ x5 x6 x7 x8 fs', ([some (.ref p), some (.int (k : Int)), some (.ref o), some (.int ((1 + i : Nat) : Int)), some (.ref f), some (.int ((0 + s : Nat) : Int)), some (V.int ((Z.d.drop (0 + s)).take (1 + i - (0 + s))).sum), some (.ref D), y8] : L2.St) = [some (.ref p), some (.int (k : Int)), some (.ref o), some (.int ((1 + i : Nat) : Int)), some (.ref f), x5, x6, x7, x8] ∧ s + 1 ≤ 1 + i ∧ Same H1 (upd H4 f (.lst (fs.map V.int ++ [.int v]))) ∧ (upd H4 f (.lst (fs.map V.int ++ [.int v]))) f = some (.lst (fs'.map V.int)) ∧ FitOk Z k t (1 + i) (s + 1) fs' := by
                intro v hv
                refine ⟨_, _, _, _, fs ++ [v], rfl, hs, fun b' z hz => ?_, ?_, F.more (by rw [← hu, e0]) hc' hv⟩
                · rw [upd_ne (ne_of_none hz nf)]
                  exact s24 _ _ hz
                · rw [upd_same, List.map_append]
                  rfl
              have hfl : (fs.map V.int).length < sizeLine := by
                rw [List.length_map]
                have := F.len
                exact small1000 (by omega)
              refine ⟨_, rfl, _, _, rfl, rfl, _, rfl, ?_⟩
              have sd := wf.segd s (1 + i)
              refine ite2 (fun hg => ?_) (fun hg => ?_)
              · refine ⟨_, rfl, p, _, 1, _, rfl, rfl, SqT.of hp4.top, at1, _, rfl, _, _, _, _, rfl, rfl, SqT.of hp4.s, g_at (by rw [wf.ls]; omega), ?_⟩
                refine ⟨_, rfl, D, _, rfl, SqL.of hl4, _, _, rfl, rfl, _, _, rfl, rfl, f, _, _, rfl, rfl, hf4, hfl, ?_⟩
                refine fin (u + (g Z.s (0 + s) + (List.map (fun i => (fun r => kept Z (0 + s) r * g Z.d r) (0 + s + i)) (List.range ((((1 + i : Nat) : Int) - ((0 + s : Nat) : Int)).toNat))).sum)) ?_
                have hg' : 0 < seg Z.d s (1 + i) := by
                  have := of_decide_eq_true hg
                  rw [e0] at this
                  exact this
                have e1 : lotc Z s (1 + i) = g Z.s s + lotv Z s (1 + i) := if_neg (by omega)
                have eN2 : (((1 + i : Nat) : Int) - ((0 + s : Nat) : Int)).toNat = 1 + i - s := by omega
                rw [e1, eN2, e0]
                rfl
              · refine ⟨_, _, rfl, rfl, f, _, _, rfl, rfl, hf4, hfl, ?_⟩
                refine fin (u + 0) ?_
                have hg' : ¬ 0 < seg Z.d s (1 + i) := fun z => by
                  refine hg (decide_eq_true ?_)
                  rw [e0]
                  exact z
                have e1 : lotc Z s (1 + i) = 0 := if_pos (by omega)
                rw [e1]
          · rw [decide_eq_false (show ¬ (((0 + s : Nat) : Int) ≠ (k : Int) ∨ ((Z.d.drop (0 + s)).take (1 + i - (0 + s))).sum = 0) from hc)]
            refine iteF ?_
            refine ⟨_, _, _, _, fs, rfl, hs, s23, s3 _ _ hf, F.skip fun u hu' hc' => hc ?_⟩
            rw [e0]
            rcases hc' with h | h
            · exact .inl fun z => h (by omega)
            · exact .inr h
      · subst e'
        have ho2 := s2 _ _ ho
        have F' : FitOk Z k t (i + 1) (i + 1) fs := Nat.add_comm 1 i ▸ F
        have fin : ∀ (y : V) (r : Option Int) (H3 : Hp), y = oV r → Same H2 H3 → WtOk Z k (t ++ [r]) (i + 1) → ∃ x3 x4 x5 x6 x7 x8 t', ([some (.ref p), some (.int (k : Int)), some (.ref o), some (.int ((1 + i : Nat) : Int)), some (.ref f), y5, y6, y7, y8] : L2.St) = [some (.ref p), some (.int (k : Int)), some (.ref o), x3, x4, x5, x6, x7, x8] ∧ i + 1 ≤ n ∧ Same H (upd H3 o (.lst (t.map oV ++ [y]))) ∧ (upd H3 o (.lst (t.map oV ++ [y]))) o = some (.lst (t'.map oV)) ∧ WtOk Z k t' (i + 1) := by
          intro y r H3 hy s3 hW
          refine ⟨_, _, _, _, _, _, t ++ [r], rfl, hi, fun b' z hz => ?_, ?_, hW⟩
          · rw [upd_ne (ne_of_none hz no)]
            exact s3 _ _ (s2 _ _ (s1 _ _ hz))
          · rw [upd_same, List.map_append, hy]
            rfl
        have htl : (t.map oV).length < sizeLine := by
          rw [List.length_map]
          exact small1000 hl
        refine ⟨_, rfl, .inl ⟨rfl, _, SqL.of ho2⟩, _, rfl, Nat.zero_le _, fun pe npe => ?_⟩
        have s3 : Same H2 (upd H2 pe (.lst [])) := same_upd npe
        refine ⟨.list (fs.map .int), .list [], .lst (SqL.of (s3 _ _ hf)) (dpAll_ints fs), .lst (SqL.of upd_same) .nil, shaped_l fs, shaped_l [], _, rfl, ?_⟩
        cases fs with
        | nil =>
          refine iteF ?_
          exact ⟨o, _, _, rfl, rfl, s3 _ _ ho2, htl, fin .non none _ rfl s3 (st.more F' (fun _ => rfl) fun h => absurd rfl h)⟩
        | cons v0 fs0 =>
          refine iteT ?_
          refine ⟨_, rfl, f, v0 :: fs0, rfl, SqL.of (s3 _ _ hf), Nat.succ_pos _, fun m hm hle => ?_⟩
          exact ⟨o, _, _, rfl, rfl, s3 _ _ ho2, htl, fin (.int m) (some m) _ rfl s3 (st.more F' (fun h => by cases h) fun _ => ⟨m, rfl, hm, hle⟩)⟩
    · subst e'
      refine ⟨_, rfl, 1, rfl, o, _, _, _, rfl, rfl, SqL.of ho, at_neg1 (n := n) (by rw [List.length_map]; exact st.len) ?_, q H1 t s1 st⟩
      unfold ot
      rw [List.getElem?_map, List.getD_eq_getElem?_getD, List.getElem?_eq_getElem (by rw [st.len]; exact Nat.lt_succ_self n)]
      rfl
end
end Lp

/-! with_free, forced. -/
namespace Lp
open PySem PySem.Spec PyProof.Rows L2 LpR
theorem no_part {σ : L2.St} {H : Hp} {Q : Option Int → Hp → Prop} (h : Q none H) : tNoPart σ H Q := h
/-- another setup in a period -/
def setS (Z : Pb) (k : Nat) (v : Int) : Pb := { Z with s := Z.s.take k ++ [v] ++ Z.s.drop (k + 1) }
/-- the periods from e on -/
def tailP (Z : Pb) (e : Nat) : Pb := ⟨Z.d.drop e, Z.s.drop e, Z.u.drop e, Z.h.drop e⟩
theorem Wf.tail {Z : Pb} {n e : Nat} (wf : Wf Z n) (he : e < n) : Wf (tailP Z e) (n - e) :=
  ⟨by show (Z.d.drop e).length = _; rw [List.length_drop, wf.ld], by show (Z.s.drop e).length = _; rw [List.length_drop, wf.ls], by show (Z.u.drop e).length = _; rw [List.length_drop, wf.lu], by show (Z.h.drop e).length = _; rw [List.length_drop, wf.lh],
    by omega, by have := wf.n12; omega, fun x hx => wf.bd x (List.mem_of_mem_drop hx), fun x hx => wf.bs x (List.mem_of_mem_drop hx), fun x hx => wf.bu x (List.mem_of_mem_drop hx), fun x hx => wf.bh x (List.mem_of_mem_drop hx)⟩
theorem Wf.setS {Z : Pb} {n k : Nat} {v : Int} (wf : Wf Z n) (hk : k < n) (hv : 0 ≤ v) : Wf (setS Z k v) n :=
  ⟨wf.ld, by
    show (Z.s.take k ++ [v] ++ Z.s.drop (k + 1)).length = n
    rw [List.length_append, List.length_append, List.length_take, List.length_drop, wf.ls]
    show min k n + 1 + (n - (k + 1)) = n
    omega, wf.lu, wf.lh, wf.n1, wf.n12, wf.bd, fun x hx => by
    rcases List.mem_append.mp (show x ∈ Z.s.take k ++ [v] ++ Z.s.drop (k + 1) from hx) with h | h
    · rcases List.mem_append.mp h with h | h
      · exact wf.bs x (List.mem_of_mem_take h)
      · rw [List.mem_singleton.mp h]
        exact hv
    · exact wf.bs x (List.mem_of_mem_drop h), wf.bu, wf.bh⟩
/-- over a tuple of tuples of ints: each gives a new tuple -/
theorem lc_tup_new {K : PySem.W.Frag} {p : Addr} {As : List Addr} {Ls : List (List Int)} {te : TE} {j : Nat} {vs : List Nat} {σ : L2.St} {H1 : Hp} {D : Addr} {Qd : Hp → Prop} (F : List Int → List Int) (hx : H1 p = some (.tup (As.map V.ref))) (hn : As.length ≤ 1000) (hD : H1 D = none)
    (hL : ∀ (i : Nat) (a : Addr), As[i]? = some a → ∃ l, Ls[i]? = some l ∧ TI H1 a l)
    (hs : ∀ (i : Nat) (a : Addr) (l : List Int) (H : Hp) (R : VK), As[i]? = some a → Ls[i]? = some l → Same H1 H → TI H a l → (∀ q H4, Same H H4 → TI H4 q (F l) → R (.ref q) H4) → gName j (.ref a) (wipe σ vs) H fun σ2 H2 => wipe σ2 vs = wipe σ vs ∧ te σ2 H2 R)
    (hd : ∀ (H : Hp) (bs : List Addr), Same H1 H → H D = some (.lst (bs.map V.ref)) → bs.length = As.length → (∀ (i : Nat) (q : Addr) (l : List Int), bs[i]? = some q → Ls[i]? = some l → TI H q (F l)) → Qd H) :
    LcEnd (Itt K p) (gName j) tYes te vs σ H1 D Qd := by
  refine lc_tup (xs := As.map V.ref) (fun i H => i ≤ As.length ∧ Same H1 H ∧ ∃ bs : List Addr, H D = some (.lst (bs.map V.ref)) ∧ bs.length = i ∧ ∀ (i : Nat) (q : Addr) (l : List Int), bs[i]? = some q → Ls[i]? = some l → TI H q (F l))
    ⟨Nat.zero_le _, same_upd hD, [], upd_same, rfl, fun i q l h => by simp at h⟩ (fun i H _ ⟨_, sm, _⟩ => SqT.of (sm _ _ hx)) (fun i x H hi ⟨hle, sm, bs, hb, hbl, hall⟩ => ?_) fun H ⟨_, sm, bs, hb, hbl, hall⟩ => hd H bs sm hb (by rw [hbl, List.length_map]) hall
  rw [List.getElem?_map] at hi
  cases ea : As[i]? with
  | none =>
    rw [ea] at hi
    cases hi
  | some a =>
    rw [ea] at hi
    cases hi
    have hlt : i < As.length := (List.getElem?_eq_some_iff.mp ea).1
    obtain ⟨l, el, hl⟩ := hL i a ea
    have key := hs i a l H (fun y H4 => ∃ acc, H4 D = some (.lst acc) ∧ acc.length < sizeLine ∧ i + 1 ≤ As.length ∧ Same H1 (upd H4 D (.lst (acc ++ [y]))) ∧ ∃ bs : List Addr, (upd H4 D (.lst (acc ++ [y]))) D = some (.lst (bs.map V.ref)) ∧ bs.length = i + 1 ∧ ∀ (i : Nat) (q : Addr) (l : List Int), bs[i]? = some q → Ls[i]? = some l → TI (upd H4 D (.lst (acc ++ [y]))) q (F l)) ea el sm (sm _ _ hl) (fun q H4 s4 hq => ?_)
    · exact key
    · refine ⟨_, s4 _ _ hb, by rw [List.length_map]; exact small1000 (by omega), hlt, fun b o ho => ?_, bs ++ [q], ?_, by rw [List.length_append, hbl]; rfl, fun i' q' l' hq' hl' => ?_⟩
      · rw [upd_ne (ne_of_none ho hD)]
        exact s4 _ _ (sm _ _ ho)
      · rw [upd_same, List.map_append]
        rfl
      · have nD : ∀ {q : Addr} {l : List Int}, TI H4 q l → q ≠ D := fun {q l} h => ne_of h (s4 _ _ hb) (by intro z; cases z)
        by_cases hii : i' < bs.length
        · rw [List.getElem?_append_left hii] at hq'
          have h1 : TI H4 q' (F l') := s4 _ _ (hall i' q' l' hq' hl')
          show (upd H4 D _) q' = _
          rw [upd_ne (nD h1)]
          exact h1
        · rw [List.getElem?_append_right (by omega)] at hq'
          have e0 : i' - bs.length = 0 := by
            have := (List.getElem?_eq_some_iff.mp hq').1
            simp at this
            omega
          rw [e0] at hq'
          cases hq'
          have ei : i' = i := by omega
          subst ei
          rw [el] at hl'
          cases hl'
          show (upd H4 D _) q = _
          rw [upd_ne (nD hq)]
          exact hq
def Rest (Z : Pb) (n e : Nat) (B : Int) : Prop := (e = n ∧ B = 0) ∨ (e < n ∧ ∃ tb, StOk (tailP Z e) tb (n - e) ∧ B = g tb (n - e))
structure FoOk (Z : Pb) (n k : Nat) (t : List Int) (m : Nat) (r : Option Int) : Prop where
  ex : ∀ v, r = some v → ∃ e B, k < e ∧ e ≤ m ∧ 0 < seg Z.d k e ∧ Rest Z n e B ∧ v = g t k + g Z.s k + lotv Z k e + B
  le : ∀ e, k < e → e ≤ m → 0 < seg Z.d k e → ∃ v B, r = some v ∧ Rest Z n e B ∧ v ≤ g t k + g Z.s k + lotv Z k e + B
theorem FoOk.skip {Z : Pb} {n k : Nat} {t : List Int} {m : Nat} {r : Option Int} (F : FoOk Z n k t m r) (h : ¬ 0 < seg Z.d k (m + 1)) : FoOk Z n k t (m + 1) r := by
  refine ⟨fun v hv => ?_, fun e h1 h2 h3 => ?_⟩
  · obtain ⟨e, B, h1, h2, h3⟩ := F.ex v hv
    exact ⟨e, B, h1, Nat.le_succ_of_le h2, h3⟩
  · by_cases he : e ≤ m
    · exact F.le e h1 he h3
    · have : e = m + 1 := by omega
      subst this
      exact absurd h3 h
def best2 (v : Int) : Option Int → Int
  | none => v
  | some u => if v < u then v else u
theorem FoOk.more {Z : Pb} {n k : Nat} {t : List Int} {m : Nat} {r : Option Int} {B : Int} {v : Int} (F : FoOk Z n k t m r) (hk : k ≤ m) (h : 0 < seg Z.d k (m + 1)) (hB : Rest Z n (m + 1) B)
    (hv : v = g t k + g Z.s k + lotv Z k (m + 1) + B) : FoOk Z n k t (m + 1) (some (best2 v r)) := by
  cases r with
  | none =>
    refine ⟨fun v' hv' => ?_, fun e h1 h2 h3 => ?_⟩
    · cases hv'
      exact ⟨m + 1, B, by omega, Nat.le_refl _, h, hB, hv⟩
    · by_cases he : e ≤ m
      · obtain ⟨v0, B0, e0, _⟩ := F.le e h1 he h3
        cases e0
      · have : e = m + 1 := by omega
        subst this
        exact ⟨v, B, rfl, hB, by omega⟩
  | some u =>
    refine ⟨fun v' hv' => ?_, fun e h1 h2 h3 => ?_⟩
    · have hv2 := Option.some.inj hv'
      rw [show best2 v (some u) = if v < u then v else u from rfl] at hv2
      by_cases c : v < u
      · rw [if_pos c] at hv2
        subst hv2
        exact ⟨m + 1, B, by omega, Nat.le_refl _, h, hB, hv⟩
      · rw [if_neg c] at hv2
        subst hv2
        obtain ⟨e, B', h1, h2, h3⟩ := F.ex u rfl
        exact ⟨e, B', h1, Nat.le_succ_of_le h2, h3⟩
    · have hle : (if v < u then v else u) ≤ v ∧ (if v < u then v else u) ≤ u := by
        by_cases c : v < u
        · rw [if_pos c]; omega
        · rw [if_neg c]; omega
      by_cases he : e ≤ m
      · obtain ⟨v0, B0, e0, hB0, h4⟩ := F.le e h1 he h3
        cases e0
        exact ⟨_, B0, rfl, hB0, by rw [show best2 v (some u) = if v < u then v else u from rfl]; omega⟩
      · have : e = m + 1 := by omega
        subst this
        exact ⟨_, B, rfl, hB, by rw [show best2 v (some u) = if v < u then v else u from rfl]; omega⟩
section
variable {P : Program} {w : World} {K : PySem.W.Frag} {mg : Str → Option Value} {base : Heap}
def sp_withfree : Sp := fun vs H Q _ => ∃ (p a b c e : Addr) (Z : Pb) (n k : Nat), vs = [.ref p, .int (k : Int)] ∧ PAt H p Z a b c e ∧ Wf Z n ∧ k < n ∧ ∀ H' p' b', Same H H' → PAt H' p' (setS Z k 0) a b' c e → Q (.ref p') H'
theorem ok_withfree (T : Txt K mg) : Ok P w K mg base 1 "with_free" ["problem", "period"] sp_withfree := by
  refine T.d_withfree.ok fun f fd F => ?_
  refine F.ok sc_withfree (fun vs H Q E h => ?_) (fun cdv A outer s H vs Q E hr h => ?_)
  · obtain ⟨p, a, b, c, e, Z, n, k, rfl, _⟩ := h
    rfl
  · obtain ⟨p, a, b, c, e, Z, n, k, rfl, hp, wf, hk, q⟩ := h
    have n12 := wf.n12
    refine ⟨_, (pss_cons (ps_set (i := 2) sc_withfree.nd rfl (.inl rfl) (pe_op op_catA (pe_op op_catA (pe_slice sl_tupA (pe_ix ix_tup (pv 0) pe_int (fun _ _ => rfl)) po_none (po_some (pv 1))) (pe_tup (pa_cons pe_int pa_nil))) (pe_slice sl_tupA (pe_ix ix_tup (pv 0) pe_int (fun _ _ => rfl)) (po_some (pe_op op_add (pv 1) pe_int)) po_none)))
      (pss_one (ps_ret (pe_tup (pa_cons (pe_ix ix_tup (pv 0) pe_int (fun _ _ => rfl)) (pa_cons (pv 2) (pa_cons (pe_ix ix_tup (pv 0) pe_int (fun _ _ => rfl)) (pa_cons (pe_ix ix_tup (pv 0) pe_int (fun _ _ => rfl)) pa_nil)))))))), ?_⟩
    refine ⟨_, rfl, p, _, 1, _, rfl, rfl, SqT.of hp.top, at1, _, rfl, _, rfl, ?_⟩
    refine sl_read hp.s (cut_to _ _ (by rw [wf.ls]; omega)) fun t1 H1 s1 ht1 => ?_
    refine ⟨len1000 (by show 1 ≤ 1000; omega), fun t2 nt2 => ?_⟩
    have s2 := same_upd (H := H1) (p := t2) (o := .tup [.int 0]) nt2
    refine cat_read (s2 _ _ ht1) upd_same (by rw [List.length_map, List.length_take, wf.ls]; show min k n + 1 ≤ 1000; omega) fun t3 H3 s3 ht3 => ?_
    have hp3 := hp.same (s1.trans (s2.trans s3))
    refine ⟨_, rfl, p, _, 1, _, rfl, rfl, SqT.of hp3.top, at1, _, rfl, _, _, rfl, rfl, _, rfl, ?_⟩
    refine no_part (sl_read hp3.s (cut_from _ (k + 1) (by rw [wf.ls]; omega)) fun t4 H4 s4 ht4 => ?_)
    refine cat_read (s4 _ _ ht3) ht4 (by rw [List.length_append, List.length_map, List.length_map, List.length_take, List.length_drop, wf.ls]; show min k n + 1 + (n - (k + 1)) ≤ 1000; omega) fun t5 H5 s5 ht5 => ?_
    have hp5 := hp3.same (s4.trans s5)
    refine ⟨_, rfl, p, _, 0, _, rfl, rfl, SqT.of hp5.top, at0, _, rfl, _, rfl, p, _, 2, _, rfl, rfl, SqT.of hp5.top, at2, _, rfl, p, _, 3, _, rfl, rfl, SqT.of hp5.top, at3, len1000 (by show 4 ≤ 1000; omega), fun p' np' => ?_⟩
    have s6 := same_upd (H := H5) (p := p') (o := .tup [.ref a, .ref t5, .ref c, .ref e]) np'
    refine q _ p' t5 (s1.trans (s2.trans (s3.trans (s4.trans (s5.trans s6))))) ⟨upd_same, s6 _ _ hp5.d, ?_, s6 _ _ hp5.u, s6 _ _ hp5.h⟩
    have := s6 _ _ ht5
    rw [show (V.int 0 :: []) = ([0] : List Int).map V.int from rfl, ← List.map_append, ← List.map_append] at this
    exact this
end
end Lp

/-! forced. -/
namespace Lp
open PySem PySem.Spec PyProof.Rows L2 LpR
/-- best = cost if best is None else min(best, cost) -/
theorem best_read {σ : L2.St} {H : Hp} {D : Ends} {i j : Nat} {r : Option Int} {v : Int} (h1 : σ[i]? = some (some (oV r))) (h2 : σ[j]? = some (some (.int v)))
    (q : D.nx (σ.set i (some (oV (some (best2 v r))))) H) :
    tAsg (tIf (tTest (tOp (fun x y H Q => y = V.non ∧ Q (.bl (decide (x = .non))) H) (tVar i) (tC .non))) (tVar j) (tCB (fun xs H Q => ∃ i j, xs = [V.int i, .int j] ∧ Q (.int (if j < i then j else i)) H) (tCons (tVar i) (tCons (tVar j) tNil)))) (gName i) D σ H := by
  refine ⟨_, h1, rfl, _, rfl, ?_⟩
  cases r with
  | none => exact iteT ⟨_, h2, q⟩
  | some u => exact iteF ⟨_, h1, _, h2, _, _, rfl, q⟩
section
variable {P : Program} {w : World} {K : PySem.W.Frag} {mg : Str → Option Value} {base : Heap}
def sp_forced : Sp := fun vs H Q _ => ∃ (p a b c e : Addr) (Z : Pb) (n k : Nat), vs = [.ref p, .int (k : Int)] ∧ PAt H p Z a b c e ∧ Wf Z n ∧ k < n ∧ ∀ H' t r, Same H H' → StOk Z t n → FoOk Z n k t n r → Q (oV r) H'
theorem ok_forced (T : Txt K mg) : Ok P w K mg base 4 "forced" ["problem", "period"] sp_forced := by
  obtain ⟨f_periodsof, fd_periodsof, G_periodsof, g_periodsof, k_periodsof, b_periodsof⟩ := ok_periodsof (P := P) (w := w) (base := base) T
  obtain ⟨f_stages, fd_stages, G_stages, g_stages, k_stages, b_stages⟩ := ok_stages (P := P) (w := w) (base := base) T
  obtain ⟨f_kept, fd_kept, G_kept, g_kept, k_kept, b_kept⟩ := ok_kept (P := P) (w := w) (base := base) T
  refine T.d_forced.ok fun f fd F => ?_
  refine F.ok sc_forced (fun vs H Q E h => ?_) (fun cdv A outer s H vs Q E hr h => ?_)
  · obtain ⟨p, a, b, c, e, Z, n, k, rfl, _⟩ := h
    rfl
  · obtain ⟨p, a, b, c, e, Z, n, k, rfl, hp, wf, hk, q⟩ := h
    have n12 := wf.n12
    refine ⟨_, (pss_cons (ps_par (i := 2) (j := 3) rfl sc_forced.nd rfl rfl (by decide) rfl rfl (pa_cons (pe_call G_periodsof (hr.mono (by decide)) (by rfl) g_periodsof k_periodsof b_periodsof .nil pass0 (pa_cons (pv 0) pa_nil)) (pa_cons pe_non pa_nil)) (by rfl))
      (pss_cons (ps_set (i := 4) sc_forced.nd rfl (.inl rfl) (pe_call G_stages (hr.mono (by decide)) (by rfl) g_stages k_stages b_stages .nil pass0 (pa_cons (pv 0) pa_nil)))
      (pss_cons (ps_for PassesOwn.never rfl (pi_range2 (by rfl) T.z_range (pa_cons (pe_op op_add (pv 1) pe_int) (pa_cons (pe_op op_add (pv 2) pe_int) pa_nil))) (pg_name (i := 5) sc_forced.nd rfl (.inr rfl))
        (pss_one (ps_if (pt_cmpR op_gt (pe_callB (cr_sumT rfl) (by rfl) T.z_sum (by decide +kernel) (pa_cons (pe_slice sl_tupA (pe_ix ix_tup (pv 0) pe_int (fun _ _ => rfl)) (po_some (pv 1)) (po_some (pv 5))) pa_nil)) pe_int (nomark _))
            (pss_cons (ps_setLc (i := 6) (own := [("at", 9)]) (g := gName 9) (tt := tYes) rfl sc_forced.nd rfl rfl (sw_true rfl rfl rfl (by decide +kernel)) (pi_range2 (by rfl) T.z_range (pa_cons (pv 1) (pa_cons (pv 5) pa_nil))) (blkOk_by (own := [("at", 9)]) (N := N_forced) (sc := defScope s_forced) (by decide +kernel)) (fun _ _ _ _ _ => pg_name (i := 9) sc_forced.nd rfl (Or.inl rfl)) (fun _ _ _ _ _ => pts_nil) (fun _ _ _ _ _ => (pe_op op_mul (pe_call G_kept (hr.mono (by decide)) (by rfl) g_kept k_kept b_kept .nil pass0 (pa_cons (pv 0) (pa_cons (pv 1) (pa_cons (pv 9) pa_nil)))) (pe_ix (ixtK K rfl) (pe_ix (ixtK K rfl) (pv 0) pe_int (fun _ _ => rfl)) (pv 9) (fun _ _ => rfl)))))
              (pss_cons (ps_set (i := 7) sc_forced.nd rfl (.inl rfl) (pe_callTy call_tuple_of (by rfl) T.z_tuple (by decide +kernel) (pa_cons (pe_lc (own := [("part", 10)]) (g := gName 10) (tt := tYes) rfl sc_forced.nd (pi_tup (pv 0)) (blkOk_by (own := [("part", 10)]) (N := N_forced) (sc := defScope s_forced) (by decide +kernel)) (fun _ _ _ _ _ => pg_name (i := 10) sc_forced.nd rfl (Or.inl rfl)) (fun _ _ _ _ _ => pts_nil) (fun _ _ _ _ _ => (pe_slice (slK K rfl) (pv 10) (po_some (pv 5)) po_none))) pa_nil)))
              (pss_cons (ps_set (i := 8) sc_forced.nd rfl (.inl rfl) (pe_op op_add (pe_op op_add (pe_op op_add (pe_ix ix_list (pv 4) (pv 1) (fun _ _ => rfl)) (pe_ix ix_tup (pe_ix ix_tup (pv 0) pe_int (fun _ _ => rfl)) (pv 1) (fun _ _ => rfl))) (pe_callB (cr_sum rfl) (by rfl) T.z_sum (by decide +kernel) (pa_cons (pv 6) pa_nil))) (pe_ifExp (pt_cmpR op_lt (pv 5) (pv 2) (nomark _)) (pe_ix ix_list (pe_call G_stages (hr.mono (by decide)) (by rfl) g_stages k_stages b_stages .nil pass0 (pa_cons (pv 7) pa_nil)) (pe_un un_neg pe_int) (fun _ _ => rfl)) pe_int)))
              (pss_one (ps_set (i := 3) sc_forced.nd rfl (.inl rfl) (pe_ifExp (pt_cmpR op_isN (pv 3) pe_non (nomark _)) (pv 8) (pe_callB (call_min2 rfl) (by rfl) T.z_min (by decide +kernel) (pa_cons (pv 3) (pa_cons (pv 8) pa_nil)))))))))
            pss_nil)))
      (pss_one (ps_ret (pv 3)))))), ?_⟩
    refine ⟨_, rfl, p, a, b, c, e, Z.d, rfl, hp.top, hp.d, ?_⟩
    rw [wf.ld]
    refine ⟨_, _, rfl, ?_⟩
    refine ⟨_, rfl, p, a, b, c, e, Z, n, rfl, hp, wf, fun H1 o t s1 ho st => ?_⟩
    have hp1 := hp.same s1
    have htl : k < t.length := by rw [st.len]; omega
    refine ⟨_, rfl, _, _, rfl, rfl, _, rfl, _, _, rfl, rfl, _, _, rfl, ⟨by omega, by omega, by omega, by omega⟩, ?_⟩
    have eN : (((n : Nat) : Int) + 1 - (((k : Nat) : Int) + 1)).toNat = n - k := by omega
    rw [eN]
    refine for_rangeN (lo := k + 1) rfl (fun i σ H2 => ∃ y5 y6 y7 y8 y9 y10 r, σ = [some (.ref p), some (.int (k : Int)), some (.int (n : Int)), some (oV r), some (.ref o), y5, y6, y7, y8, y9, y10] ∧ i ≤ n - k ∧ Same H1 H2 ∧ FoOk Z n k t (k + i) r)
      ⟨none, none, none, none, none, none, none, rfl, Nat.zero_le _, Same.refl _, fun v hv => (by cases hv), fun e h1 h2 => by omega⟩ (fun i σ H2 hi ⟨y5, y6, y7, y8, y9, y10, r, e', _, s2, F⟩ => ?_) (fun σ H2 ⟨y5, y6, y7, y8, y9, y10, r, e', _, s2, F⟩ => ?_)
    · subst e'
      have hp2 := hp1.same s2
      refine ⟨_, rfl, p, _, 0, _, rfl, rfl, SqT.of hp2.top, at0, _, rfl, _, rfl, _, rfl, _, rfl, ?_⟩
      refine sl_read hp2.d (cut_map _ _ _ (by rw [wf.ld]; omega) (by rw [wf.ld]; omega)) fun tt H3 s3 ht => ?_
      have hp3 := hp2.same s3
      have s23 := s2.trans s3
      have ee : k + 1 + i = k + i + 1 := by omega
      refine ⟨tt, _, rfl, SqT.of ht, _, _, rfl, rfl, _, rfl, ?_⟩
      refine ite2 (fun hg => ?_) (fun hg => ?_)
      · have hg' : 0 < seg Z.d k (k + i + 1) := by
          have := of_decide_eq_true hg
          rw [ee] at this
          exact this
        -- lot
        refine ⟨_, rfl, _, rfl, _, _, rfl, ⟨by omega, by omega, by omega, by omega⟩, fun D hD => ?_⟩
        refine lc_range_ints (lo := k) (fun r => kept Z k r * g Z.d r) rfl (by omega) hD (fun r' H4 R hr' s4 kk => ⟨rfl, ?_⟩) (fun H4 s4 hl4 => ?_)
        · have hrn : k + r' < n := by omega
          have hp4 := hp3.same s4
          refine ⟨_, rfl, _, rfl, _, rfl, p, a, b, c, e, Z, n, k, k + r', rfl, hp4, wf, by omega, by omega, fun H5 s5 => ?_⟩
          have hp5 := hp4.same s5
          have bd := wf.d0 hrn
          exact ⟨_, rfl, p, _, 0, _, rfl, rfl, SqT.of hp5.top, at0, _, rfl, _, _, _, _, rfl, rfl, SqT.of hp5.d, g_at (by rw [wf.ld]; exact hrn), _, _, rfl, rfl, mulR bd.1 (by omega), kk H5 s5⟩
        · have hp4 := hp3.same s4
          -- tail
          refine ⟨_, rfl, p, rfl, ⟨_, SqT.of hp4.top⟩, fun D2 hD2 => ?_⟩
          refine lc_tup_new (As := [a, b, c, e]) (Ls := [Z.d, Z.s, Z.u, Z.h]) (fun l => l.drop (k + 1 + i)) hp4.top (by show 4 ≤ 1000; omega) hD2 (fun i' q' hq' => ?_) (fun i' q' l' H5 R hq' hl' s5 hT kk => ⟨rfl, ?_⟩) (fun H5 bs s5 hb5 hbl hall => ?_)
          · match i', hq' with
            | 0, hq' => cases hq'; exact ⟨_, rfl, hp4.d⟩
            | 1, hq' => cases hq'; exact ⟨_, rfl, hp4.s⟩
            | 2, hq' => cases hq'; exact ⟨_, rfl, hp4.u⟩
            | 3, hq' => cases hq'; exact ⟨_, rfl, hp4.h⟩
            | i' + 4, hq' => cases hq'
          · have hll : l'.length = n := by
              match i', hl' with
              | 0, hl' => cases hl'; exact wf.ld
              | 1, hl' => cases hl'; exact wf.ls
              | 2, hl' => cases hl'; exact wf.lu
              | 3, hl' => cases hl'; exact wf.lh
              | i' + 4, hl' => cases hl'
            refine ⟨_, rfl, _, rfl, _, rfl, ?_⟩
            exact no_part (sl_read hT (cut_from _ _ (by rw [hll]; omega)) fun q4 H6 s6 h6 => kk q4 H6 s6 h6)
          · obtain ⟨q0, q1, q2, q3, rfl⟩ : ∃ q0 q1 q2 q3, bs = [q0, q1, q2, q3] := by
              match bs, hbl with
              | [q0, q1, q2, q3], _ => exact ⟨q0, q1, q2, q3, rfl⟩
            have hp5 := hp4.same s5
            refine ⟨D2, _, rfl, .inl ⟨SqL.of hb5, fun l nl => ?_⟩⟩
            have s6 := same_upd (H := H5) (p := l) (o := .tup ([q0, q1, q2, q3].map V.ref)) nl
            generalize hH6 : upd H5 l (.tup ([q0, q1, q2, q3].map V.ref)) = H6 at s6
            have htail : PAt H6 l (tailP Z (k + 1 + i)) q0 q1 q2 q3 := by
              refine ⟨?_, s6 _ _ (hall 0 q0 _ rfl rfl), s6 _ _ (hall 1 q1 _ rfl rfl), s6 _ _ (hall 2 q2 _ rfl rfl), s6 _ _ (hall 3 q3 _ rfl rfl)⟩
              rw [← hH6, upd_same]
              rfl
            have hp6 := hp5.same s6
            have s36 := (s4.trans s5).trans s6
            have s26 := s23.trans s36
            -- cost
            refine ⟨_, rfl, _, rfl, o, _, _, _, rfl, rfl, SqL.of (s26 _ _ ho), g_at htl, ?_⟩
            refine ⟨_, rfl, p, _, 1, _, rfl, rfl, SqT.of hp6.top, at1, _, rfl, _, _, _, _, rfl, rfl, SqT.of hp6.s, g_at (by rw [wf.ls]; exact hk), _, _, rfl, rfl, ?_⟩
            refine ⟨_, rfl, D, _, rfl, SqL.of (s5.trans s6 _ _ hl4), _, _, rfl, rfl, ?_⟩
            have eL : (List.map (fun i => (fun r => kept Z k r * g Z.d r) (k + i)) (List.range ((((k + 1 + i : Nat) : Int) - ((k : Nat) : Int)).toNat))).sum = lotv Z k (k + i + 1) := by
              have e2 : (((k + 1 + i : Nat) : Int) - ((k : Nat) : Int)).toNat = k + i + 1 - k := by omega
              rw [e2]
              rfl
            refine ⟨_, rfl, _, rfl, _, _, rfl, rfl, _, rfl, ?_⟩
            have eval2 : ∀ B : Int, g t k + g Z.s k + (List.map (fun i => (fun r => kept Z k r * g Z.d r) (k + i)) (List.range ((((k + 1 + i : Nat) : Int) - ((k : Nat) : Int)).toNat))).sum + B = g t k + g Z.s k + lotv Z k (k + i + 1) + B := fun B => by rw [eL]
            refine ite2 (fun hlt => ?_) (fun hlt => ?_)
            · have hlt' : k + 1 + i < n := by
                have := of_decide_eq_true hlt
                omega
              refine ⟨_, rfl, l, q0, q1, q2, q3, tailP Z (k + 1 + i), n - (k + 1 + i), rfl, htail, wf.tail hlt', fun H7 o7 tb s7 ho7 st7 => ?_⟩
              refine ⟨1, rfl, o7, _, _, _, rfl, rfl, SqL.of ho7, at_neg1 (n := n - (k + 1 + i)) (v := .int (g tb (n - (k + 1 + i)))) (by rw [List.length_map]; exact st7.len) (by rw [List.getElem?_map, g_get (by rw [st7.len]; omega)]; rfl), _, _, rfl, rfl, ?_⟩
              refine best_read (r := r) rfl rfl ?_
              refine ⟨_, _, _, _, _, _, _, rfl, by omega, s26.trans s7, ?_⟩
              have R : Rest Z n (k + i + 1) (g tb (n - (k + 1 + i))) := .inr ⟨by omega, tb, by rw [← ee]; exact st7, by rw [← ee]⟩
              exact F.more (by omega) hg' R (eval2 _)
            · have hlt' : k + i + 1 = n := by
                have : ¬ (((k + 1 + i : Nat) : Int) < ((n : Nat) : Int)) := fun z => hlt (decide_eq_true z)
                omega
              refine ⟨_, _, rfl, rfl, ?_⟩
              refine best_read (r := r) rfl rfl ?_
              refine ⟨_, _, _, _, _, _, _, rfl, by omega, s26, ?_⟩
              exact F.more (by omega) hg' (.inl ⟨hlt', rfl⟩) (eval2 _)
      · refine ⟨_, _, _, _, _, _, r, rfl, by omega, s23, F.skip fun z => hg (decide_eq_true ?_)⟩
        rw [ee]
        exact z
    · subst e'
      have ek : k + (n - k) = n := by omega
      rw [ek] at F
      exact ⟨_, rfl, q H2 t r (s1.trans s2) st F⟩
end
end Lp

/-! need_problem, need_plan, need_both, need_period. -/
namespace Lp
open PySem PySem.Spec PyProof.Rows L2 LpR
theorem iteDT {c A B : Prop} [Decidable c] (hc : c) (h : A) : if decide c = true then A else B := by
  rw [if_pos (decide_eq_true hc)]
  exact h
theorem iteDF {c A B : Prop} [Decidable c] (hc : ¬ c) (h : B) : if decide c = true then A else B := by
  rw [if_neg (fun z => hc (of_decide_eq_true z))]
  exact h
theorem iteNT {b : Bool} {A B : Prop} (hb : b = true) (h : B) : if (!b) = true then A else B := by
  subst hb
  exact h
structure PlanOk (ds xs : List Int) : Prop where
  len : xs.length = ds.length
  nn : ∀ x ∈ xs, 0 ≤ x
  st : ∀ i, i < ds.length → 0 ≤ stk ds xs i
  tot : xs.sum = ds.sum
theorem PAt.part {H : Hp} {p a b c e : Addr} {Z : Pb} {n : Nat} (hp : PAt H p Z a b c e) (wf : Wf Z n) (h9 : ∀ x ∈ Z.s, x ≤ 999) {i : Nat} {x : V} (h : ([.ref a, .ref b, .ref c, .ref e] : List V)[i]? = some x) :
    ∃ q ns, x = .ref q ∧ TI H q ns ∧ ns.length = n ∧ ∀ y ∈ ns, 0 ≤ y ∧ y ≤ 999 := by
  match i, h with
  | 0, h => cases h; exact ⟨a, Z.d, rfl, hp.d, wf.ld, wf.bd⟩
  | 1, h => cases h; exact ⟨b, Z.s, rfl, hp.s, wf.ls, fun y hy => ⟨wf.bs y hy, h9 y hy⟩⟩
  | 2, h => cases h; exact ⟨c, Z.u, rfl, hp.u, wf.lu, wf.bu⟩
  | 3, h => cases h; exact ⟨e, Z.h, rfl, hp.h, wf.lh, wf.bh⟩
  | i + 4, h => cases h
section
variable {P : Program} {w : World} {K : PySem.W.Frag} {mg : Str → Option Value} {base : Heap}
def sp_needproblem : Sp := fun vs H Q _ => ∃ (p a b c e : Addr) (Z : Pb) (n : Nat), vs = [.ref p] ∧ PAt H p Z a b c e ∧ Wf Z n ∧ (∀ x ∈ Z.s, x ≤ 999) ∧ ∀ H', Same H H' → Q .non H'
theorem ok_needproblem (T : Txt K mg) : Ok P w K mg base 3 "need_problem" ["value"] sp_needproblem := by
  obtain ⟨f_isin, fd_isin, G_isin, g_isin, k_isin, b_isin⟩ := ok_isin (P := P) (w := w) (base := base) T
  refine T.d_needproblem.ok fun f fd F => ?_
  refine F.ok sc_needproblem (fun vs H Q E h => ?_) (fun cdv A outer s H vs Q E hr h => ?_)
  · obtain ⟨p, a, b, c, e, Z, n, rfl, _⟩ := h
    rfl
  · obtain ⟨p, a, b, c, e, Z, n, rfl, hp, wf, h9, q⟩ := h
    obtain ⟨t12, h_MOST_PERIODS⟩ := T.mp
    obtain ⟨t999, h_MOST_ENTRY⟩ := T.me
    refine ⟨_, (pss_cons (ps_if (PW.pt (pw_or (pt_not (pt_val (pe_callB call_isi (by rfl) T.z_isinstance (by decide +kernel) (pa_cons (pv 0) (pa_cons (pe_bltn (v := .ty "tuple") (by rfl) T.z_tuple (by decide +kernel) rfl) pa_nil))))) (pw_or (pt_cmpR op_ne (pe_callB call_len_seq (by rfl) T.z_len PySem.boot_len (pa_cons (pv 0) pa_nil)) pe_int (nomark _)) (pw_or1 (pt_not (pt_val (pe_callB (cr_all rfl) (by rfl) T.z_all (by decide +kernel) (pa_cons (pe_lc (own := [("part", 2)]) (g := gName 2) (tt := tYes) rfl sc_needproblem.nd (pi_tup (pv 0)) (blkOk_by (own := [("part", 2)]) (N := N_needproblem) (sc := defScope s_needproblem) (by decide +kernel)) (fun _ _ _ _ _ => pg_name (i := 2) sc_needproblem.nd rfl (Or.inl rfl)) (fun _ _ _ _ _ => pts_nil) (fun _ _ _ _ _ => (pe_callB (isiK K rfl) (by rfl) T.z_isinstance (by decide +kernel) (pa_cons (pv 2) (pa_cons (pe_bltn (v := .ty "tuple") (by rfl) T.z_tuple (by decide +kernel) rfl) pa_nil))))) pa_nil))))))))
        (pss_one ps_never)
        pss_nil)
      (pss_cons (ps_if (PW.pt (pw_or (pt_not (pt_chain op_le op_le pe_int (pe_callB call_len_seq (by rfl) T.z_len PySem.boot_len (pa_cons (pe_ix ix_tup (pv 0) pe_int (fun _ _ => rfl)) pa_nil)) (pe_glob (v := .int 12) (by rfl) h_MOST_PERIODS ⟨_, rfl⟩))) (pw_or1 (pt_val (pe_callB (cr_any rfl) (by rfl) T.z_any (by decide +kernel) (pa_cons (pe_lc (own := [("part", 2)]) (g := gName 2) (tt := tYes) rfl sc_needproblem.nd (pi_tup (pv 0)) (blkOk_by (own := [("part", 2)]) (N := N_needproblem) (sc := defScope s_needproblem) (by decide +kernel)) (fun _ _ _ _ _ => pg_name (i := 2) sc_needproblem.nd rfl (Or.inl rfl)) (fun _ _ _ _ _ => pts_nil) (fun _ _ _ _ _ => (pe_cmpR op_ne (pe_callB (lenK K rfl) (by rfl) T.z_len PySem.boot_len (pa_cons (pv 2) pa_nil)) (pe_callB (lenK K rfl) (by rfl) T.z_len PySem.boot_len (pa_cons (pe_ix (ixtK K rfl) (pv 0) pe_int (fun _ _ => rfl)) pa_nil)) (nomark _)))) pa_nil))))))
        (pss_one ps_never)
        pss_nil)
      (pss_one (ps_for PassesOwn.never rfl (pi_enumT (by rfl) T.z_enumerate (pa_cons (pv 0) pa_nil)) (pg_tup rfl (pgs_cons (pg_name (i := 1) sc_needproblem.nd rfl (.inl rfl)) (pgs_cons (pg_name (i := 2) sc_needproblem.nd rfl (.inl rfl)) pgs_nil)))
        (pss_one (ps_for PassesOwn.never rfl (pi_enumT (by rfl) T.z_enumerate (pa_cons (pv 2) pa_nil)) (pg_tup rfl (pgs_cons (pg_name (i := 3) sc_needproblem.nd rfl (.inl rfl)) (pgs_cons (pg_name (i := 4) sc_needproblem.nd rfl (.inl rfl)) pgs_nil)))
            (pss_one (ps_if (pt_not (pt_val (pe_call G_isin (hr.mono (by decide)) (by rfl) g_isin k_isin b_isin .nil pass0 (pa_cons (pv 4) (pa_cons pe_int (pa_cons (pe_glob (v := .int 999) (by rfl) h_MOST_ENTRY ⟨_, rfl⟩) pa_nil))))))
                (pss_one ps_never)
                pss_nil)))))))), ?_⟩
    refine ⟨_, rfl, _, _, _, _, _, rfl, .ty "tuple", ty_tup hp.top, kit_ty kb3, true, rfl, ?_⟩
    refine iteF ?_
    refine ⟨_, rfl, p, _, rfl, .inr (SqT.of hp.top), rfl, _, rfl, iteNS rfl ?_⟩
    refine ⟨_, rfl, p, rfl, ⟨_, SqT.of hp.top⟩, fun D hD => ?_⟩
    refine lc_tup_vals (fun _ => .bl true) hp.top (by show 4 ≤ 1000; omega) hD (fun i x H1 R hx s1 k => ⟨rfl, ?_⟩) (fun H1 s1 hD1 => ?_)
    · obtain ⟨q', ns, rfl, hq, _⟩ := (hp.same s1).part wf h9 hx
      exact ⟨_, rfl, _, _, _, _, _, rfl, .ty "tuple", ty_tup hq, kit_ty kb3, k H1 (Same.refl _)⟩
    refine ⟨D, [true, true, true, true], rfl, SqL.of hD1, _, rfl, iteNT rfl ?_⟩
    have hp1 := hp.same s1
    refine ⟨_, rfl, p, _, 0, _, rfl, rfl, SqT.of hp1.top, at0, a, _, rfl, .inr (SqT.of hp1.d), _, _, rfl, rfl, _, rfl, ?_⟩
    have eL : ((Z.d.map V.int).length : Nat) = n := by rw [List.length_map, wf.ld]
    rw [eL]
    have n1 := wf.n1
    have n12 := wf.n12
    refine iteDT (by omega) ?_
    refine ⟨_, _, rfl, rfl, _, rfl, ?_⟩
    refine iteNT (decide_eq_true (by omega)) ?_
    refine ⟨_, rfl, p, rfl, ⟨_, SqT.of hp1.top⟩, fun D2 hD2 => ?_⟩
    refine lc_tup_vals (fun _ => .bl false) hp1.top (by show 4 ≤ 1000; omega) hD2 (fun i x H2 R hx s2 k => ⟨rfl, ?_⟩) (fun H2 s2 hD3 => ?_)
    · obtain ⟨q', ns, rfl, hq, hl, _⟩ := (hp1.same s2).part wf h9 hx
      have hp2 := hp1.same s2
      refine ⟨_, rfl, q', _, rfl, .inr (SqT.of hq), _, rfl, p, _, 0, _, rfl, rfl, SqT.of hp2.top, at0, a, _, rfl, .inr (SqT.of hp2.d), rfl, ?_⟩
      rw [decide_eq_true (show V.int ((ns.map V.int).length : Nat) = V.int ((Z.d.map V.int).length : Nat) by rw [List.length_map, List.length_map, hl, wf.ld])]
      exact k H2 (Same.refl _)
    refine ⟨D2, [false, false, false, false], rfl, SqL.of hD3, _, rfl, iteF ?_⟩
    have s12 := s1.trans s2
    have hp2 := hp.same s12
    refine ⟨_, rfl, p, _, rfl, SqT.of hp2.top, ?_⟩
    refine for_enumT (fun i σ H3 => ∃ y1 y2 y3 y4, σ = [some (.ref p), y1, y2, y3, y4] ∧ Same H H3)
      ⟨none, none, none, none, rfl, s12⟩ (fun i σ H3 ⟨_, _, _, _, _, s3⟩ => s3 _ _ hp.top) (fun i x σ H3 H4 hx ⟨y1, y2, y3, y4, e', s3⟩ s4 => ?_) (fun σ H3 ⟨y1, y2, y3, y4, e', s3⟩ => q H3 s3)
    subst e'
    have s34 := s3.trans s4
    obtain ⟨q', ns, rfl, hq, hl, hb⟩ := (hp.same s34).part wf h9 hx
    refine ⟨_, rfl, q', _, rfl, SqT.of hq, ?_⟩
    refine for_enumT (fun j σ H5 => ∃ y1 y2 y3 y4, σ = [some (.ref p), y1, y2, y3, y4] ∧ Same H4 H5)
      ⟨_, _, _, _, rfl, Same.refl _⟩ (fun j σ H5 ⟨_, _, _, _, _, s5⟩ => s5 _ _ hq) (fun j x σ H5 H6 hx ⟨y1, y2, y3, y4, e', s5⟩ s6 => ?_) (fun σ H5 ⟨y1, y2, y3, y4, e', s5⟩ => ⟨_, _, _, _, e', s34.trans s5⟩)
    subst e'
    have hj : j < ns.length := by
      have := (List.getElem?_eq_some_iff.mp hx).1
      rwa [List.length_map] at this
    rw [List.getElem?_map, g_get hj] at hx
    cases hx
    have bb := hb _ (g_mem hj)
    refine ⟨_, rfl, _, 0, 999, rfl, _, rfl, iteNT ?_ ?_⟩
    · rw [decide_eq_true bb.1, decide_eq_true bb.2]
      rfl
    · exact ⟨_, _, _, _, rfl, s5.trans s6⟩
def sp_needplan : Sp := fun vs H Q _ => ∃ (p q a b c e : Addr) (Z : Pb) (n : Nat) (xs : List Int), vs = [.ref p, .ref q] ∧ PAt H p Z a b c e ∧ Wf Z n ∧ TI H q xs ∧ PlanOk Z.d xs ∧ ∀ H', Same H H' → Q .non H'
theorem ok_needplan (T : Txt K mg) : Ok P w K mg base 2 "need_plan" ["problem", "value"] sp_needplan := by
  obtain ⟨f_periodsof, fd_periodsof, G_periodsof, g_periodsof, k_periodsof, b_periodsof⟩ := ok_periodsof (P := P) (w := w) (base := base) T
  obtain ⟨f_isint, fd_isint, G_isint, g_isint, k_isint, b_isint⟩ := ok_isint (P := P) (w := w) (base := base) T
  obtain ⟨f_stockrow, fd_stockrow, G_stockrow, g_stockrow, k_stockrow, b_stockrow⟩ := ok_stockrow (P := P) (w := w) (base := base) T
  refine T.d_needplan.ok fun f fd F => ?_
  refine F.ok sc_needplan (fun vs H Q E h => ?_) (fun cdv A outer s H vs Q E hr h => ?_)
  · obtain ⟨p, q, a, b, c, e, Z, n, xs, rfl, _⟩ := h
    rfl
  · obtain ⟨p, q, a, b, c, e, Z, n, xs, rfl, hp, wf, hx, po, k⟩ := h
    have n12 := wf.n12
    have hlx : xs.length = n := by rw [po.len, wf.ld]
    refine ⟨_, (pss_cons (ps_set (i := 2) sc_needplan.nd rfl (.inl rfl) (pe_call G_periodsof (hr.mono (by decide)) (by rfl) g_periodsof k_periodsof b_periodsof .nil pass0 (pa_cons (pv 0) pa_nil)))
      (pss_cons (ps_if (PW.pt (pw_or (pt_not (pt_val (pe_callB call_isi (by rfl) T.z_isinstance (by decide +kernel) (pa_cons (pv 1) (pa_cons (pe_bltn (v := .ty "tuple") (by rfl) T.z_tuple (by decide +kernel) rfl) pa_nil))))) (pw_or (pt_cmpR op_ne (pe_callB call_len_seq (by rfl) T.z_len PySem.boot_len (pa_cons (pv 1) pa_nil)) (pv 2) (nomark _)) (pw_or1 (pt_not (pt_val (pe_callB (cr_all rfl) (by rfl) T.z_all (by decide +kernel) (pa_cons (pe_lc (own := [("part", 5)]) (g := gName 5) (tt := tYes) rfl sc_needplan.nd (pi_tup (pv 1)) (blkOk_by (own := [("part", 5)]) (N := N_needplan) (sc := defScope s_needplan) (by decide +kernel)) (fun _ _ _ _ _ => pg_name (i := 5) sc_needplan.nd rfl (Or.inl rfl)) (fun _ _ _ _ _ => pts_nil) (fun _ _ _ _ _ => (pe_and (pe_call G_isint (hr.mono (by decide)) (by rfl) g_isint k_isint b_isint .nil pass0 (pa_cons (pv 5) pa_nil)) (pe_one (pe_cmpR op_ge (pv 5) pe_int (nomark _)))))) pa_nil))))))))
        (pss_one ps_never)
        pss_nil)
      (pss_cons (ps_for PassesOwn.never rfl (pi_enum (by rfl) T.z_enumerate (pa_cons (pe_call G_stockrow (hr.mono (by decide)) (by rfl) g_stockrow k_stockrow b_stockrow .nil pass0 (pa_cons (pe_ix ix_tup (pv 0) pe_int (fun _ _ => rfl)) (pa_cons (pv 1) pa_nil))) pa_nil)) (pg_tup rfl (pgs_cons (pg_name (i := 3) sc_needplan.nd rfl (.inl rfl)) (pgs_cons (pg_name (i := 4) sc_needplan.nd rfl (.inl rfl)) pgs_nil)))
        (pss_one (ps_if (pt_cmpR op_lt (pv 4) pe_int (nomark _))
            (pss_one ps_never)
            pss_nil)))
      (pss_one (ps_if (pt_cmpR op_ne (pe_callB (cr_sumT rfl) (by rfl) T.z_sum (by decide +kernel) (pa_cons (pv 1) pa_nil)) (pe_callB (cr_sumT rfl) (by rfl) T.z_sum (by decide +kernel) (pa_cons (pe_ix ix_tup (pv 0) pe_int (fun _ _ => rfl)) pa_nil)) (nomark _))
        (pss_one ps_never)
        pss_nil))))), ?_⟩
    refine ⟨_, rfl, p, a, b, c, e, Z.d, rfl, hp.top, hp.d, ?_⟩
    rw [wf.ld]
    refine ⟨_, rfl, _, _, _, _, _, rfl, .ty "tuple", ty_tup hx, kit_ty kb3, true, rfl, ?_⟩
    refine iteF ?_
    refine ⟨_, rfl, q, _, rfl, .inr (SqT.of hx), _, rfl, rfl, _, rfl, iteNS (by rw [List.length_map, hlx]) ?_⟩
    refine ⟨_, rfl, q, rfl, ⟨_, SqT.of hx⟩, fun D hD => ?_⟩
    refine lc_tup_vals (fun _ => .bl true) hx (by rw [List.length_map, hlx]; omega) hD (fun i x H1 R hxi s1 kk => ⟨rfl, ?_⟩) (fun H1 s1 hD1 => ?_)
    · have hi : i < xs.length := by
        have := (List.getElem?_eq_some_iff.mp hxi).1
        rwa [List.length_map] at this
      rw [List.getElem?_map, g_get hi] at hxi
      cases hxi
      have nn := po.nn _ (g_mem hi)
      refine ⟨_, rfl, _, rfl, _, rfl, iteT ?_⟩
      refine ⟨_, rfl, _, _, rfl, rfl, ?_⟩
      show R (.bl (decide ((0 : Int) ≤ g xs i))) H1
      rw [decide_eq_true (show (0 : Int) ≤ g xs i from nn)]
      exact kk H1 (Same.refl _)
    have eM : (xs.map V.int).map (fun _ => V.bl true) = (List.replicate n true).map V.bl := by
      rw [List.map_map, List.map_replicate, ← hlx]
      exact List.map_eq_replicate_iff.mpr fun _ _ => rfl
    rw [eM] at hD1
    refine ⟨D, List.replicate n true, rfl, SqL.of hD1, _, rfl, iteNT (by rw [List.all_replicate]; split <;> rfl) ?_⟩
    have hp1 := hp.same s1
    have hx1 := hx.same s1
    refine ⟨_, rfl, p, _, 0, _, rfl, rfl, SqT.of hp1.top, at0, _, rfl, a, q, Z.d, xs, rfl, hp1.d, hx1, by rw [wf.ld, hlx], by rw [wf.ld]; exact n12, fun H2 o s2 no ho => ?_⟩
    refine ⟨o, _, rfl, SqL.of ho, ?_⟩
    have s12 := s1.trans s2
    refine for_enumL (fun i σ H3 => ∃ y3 y4 y5, σ = [some (.ref p), some (.ref q), some (.int (n : Int)), y3, y4, y5] ∧ Same H2 H3)
      ⟨none, none, none, rfl, Same.refl _⟩ (fun i σ H3 ⟨_, _, _, _, s3⟩ => s3 _ _ ho) (fun i x σ H3 H4 hx' ⟨y3, y4, y5, e', s3⟩ s4 => ?_) (fun σ H3 ⟨y3, y4, y5, e', s3⟩ => ?_)
    · subst e'
      obtain ⟨hi, rfl⟩ := stk_get hx'
      have := po.st i hi
      refine ⟨_, rfl, _, _, rfl, rfl, _, rfl, iteDF (by omega) ?_⟩
      exact ⟨_, _, _, rfl, s3.trans s4⟩
    · subst e'
      have s13 := s12.trans s3
      have hp3 := hp.same s13
      refine ⟨_, rfl, q, xs, rfl, SqT.of (hx.same s13), _, rfl, p, _, 0, _, rfl, rfl, SqT.of hp3.top, at0, a, Z.d, rfl, SqT.of hp3.d, rfl, _, rfl, iteNS (by rw [po.tot]) ?_⟩
      exact k H3 s13
def sp_needboth : Sp := fun vs H Q _ => ∃ (p q a b c e : Addr) (Z : Pb) (n : Nat) (xs : List Int), vs = [.ref p, .ref q] ∧ PAt H p Z a b c e ∧ Wf Z n ∧ (∀ x ∈ Z.s, x ≤ 999) ∧ TI H q xs ∧ PlanOk Z.d xs ∧ ∀ H', Same H H' → Q .non H'
theorem ok_needboth (T : Txt K mg) : Ok P w K mg base 4 "need_both" ["problem", "plan"] sp_needboth := by
  obtain ⟨f_needproblem, fd_needproblem, G_needproblem, g_needproblem, k_needproblem, b_needproblem⟩ := ok_needproblem (P := P) (w := w) (base := base) T
  obtain ⟨f_needplan, fd_needplan, G_needplan, g_needplan, k_needplan, b_needplan⟩ := ok_needplan (P := P) (w := w) (base := base) T
  refine T.d_needboth.ok fun f fd F => ?_
  refine F.ok sc_needboth (fun vs H Q E h => ?_) (fun cdv A outer s H vs Q E hr h => ?_)
  · obtain ⟨p, q, a, b, c, e, Z, n, xs, rfl, _⟩ := h
    rfl
  · obtain ⟨p, q, a, b, c, e, Z, n, xs, rfl, hp, wf, h9, hx, po, k⟩ := h
    refine ⟨_, (pss_cons (ps_expr (pe_call G_needproblem (hr.mono (by decide)) (by rfl) g_needproblem k_needproblem b_needproblem .nil pass0 (pa_cons (pv 0) pa_nil)))
      (pss_one (ps_expr (pe_call G_needplan (hr.mono (by decide)) (by rfl) g_needplan k_needplan b_needplan .nil pass0 (pa_cons (pv 0) (pa_cons (pv 1) pa_nil)))))), ?_⟩
    refine ⟨_, rfl, p, a, b, c, e, Z, n, rfl, hp, wf, h9, fun H1 s1 => ?_⟩
    exact ⟨_, rfl, _, rfl, p, q, a, b, c, e, Z, n, xs, rfl, hp.same s1, wf, hx.same s1, po, fun H2 s2 => k H2 (s1.trans s2)⟩
def sp_needperiod : Sp := fun vs H Q _ => ∃ (p a b c e : Addr) (Z : Pb) (n k : Nat), vs = [.ref p, .int (k : Int)] ∧ PAt H p Z a b c e ∧ Wf Z n ∧ k < n ∧ Q .non H
theorem ok_needperiod (T : Txt K mg) : Ok P w K mg base 3 "need_period" ["problem", "period"] sp_needperiod := by
  obtain ⟨f_isin, fd_isin, G_isin, g_isin, k_isin, b_isin⟩ := ok_isin (P := P) (w := w) (base := base) T
  obtain ⟨f_periodsof, fd_periodsof, G_periodsof, g_periodsof, k_periodsof, b_periodsof⟩ := ok_periodsof (P := P) (w := w) (base := base) T
  refine T.d_needperiod.ok fun f fd F => ?_
  refine F.ok sc_needperiod (fun vs H Q E h => ?_) (fun cdv A outer s H vs Q E hr h => ?_)
  · obtain ⟨p, a, b, c, e, Z, n, k, rfl, _⟩ := h
    rfl
  · obtain ⟨p, a, b, c, e, Z, n, k, rfl, hp, wf, hk, q⟩ := h
    refine ⟨_, (pss_one (ps_if (pt_not (pt_val (pe_call G_isin (hr.mono (by decide)) (by rfl) g_isin k_isin b_isin .nil pass0 (pa_cons (pv 1) (pa_cons pe_int (pa_cons (pe_op op_sub (pe_call G_periodsof (hr.mono (by decide)) (by rfl) g_periodsof k_periodsof b_periodsof .nil pass0 (pa_cons (pv 0) pa_nil)) pe_int) pa_nil))))))
        (pss_one ps_never)
        pss_nil)), ?_⟩
    refine ⟨_, rfl, _, rfl, p, a, b, c, e, Z.d, rfl, hp.top, hp.d, _, _, rfl, rfl, _, _, _, rfl, _, rfl, iteNT ?_ q⟩
    rw [wf.ld, decide_eq_true (show (0 : Int) ≤ (k : Int) by omega), decide_eq_true (show (k : Int) ≤ (n : Int) - 1 by omega)]
    rfl
end
end Lp

/-! setup_range. -/
namespace Lp
open PySem PySem.Spec PyProof.Rows L2 LpR
/-- what setup_range tells -/
def srM (pos : Bool) (paid : Int) (other free : Option Int) : Option (Int × Option Int) :=
  if pos = true then
    match free with
    | none => none
    | some f => if f < paid then none else match other with
      | none => some (0, none)
      | some o => if o < paid then none else some (0, some (o - paid))
  else match other with
    | none => none
    | some o => if o < paid then none else some ((match free with | none => 0 | some f => if 0 < paid - f then paid - f else 0), none)
def RangeV (H : Hp) (v : V) : Option (Int × Option Int) → Prop
  | none => v = .non
  | some (l, u) => ∃ q, v = .ref q ∧ H q = some (.tup [.int l, oV u])
theorem isN_non {r : Option Int} : decide (oV r = V.non) = r.isNone := by
  cases r <;> rfl
section
variable {P : Program} {w : World} {K : PySem.W.Frag} {mg : Str → Option Value} {base : Heap}
def sp_setuprange : Sp := fun vs H Q _ => ∃ (p q a b c e : Addr) (Z : Pb) (n k : Nat) (xs : List Int), vs = [.ref p, .ref q, .int (k : Int)] ∧ PAt H p Z a b c e ∧ Wf Z n ∧ (∀ x ∈ Z.s, x ≤ 999) ∧ TI H q xs ∧ PlanOk Z.d xs ∧ k < n ∧
  ∀ H' v wt t r, Same H H' → WtOk Z k wt n → StOk (setS Z k 0) t n → FoOk (setS Z k 0) n k t n r → RangeV H' v (srM (decide (0 < g xs k)) (cpre Z xs n - (if 0 < g xs k then g Z.s k else 0)) (ot wt n) r) → Q v H'
theorem ok_setuprange (T : Txt K mg) : Ok P w K mg base 5 "setup_range" ["problem", "plan", "period"] sp_setuprange := by
  obtain ⟨f_needboth, fd_needboth, G_needboth, g_needboth, k_needboth, b_needboth⟩ := ok_needboth (P := P) (w := w) (base := base) T
  obtain ⟨f_needperiod, fd_needperiod, G_needperiod, g_needperiod, k_needperiod, b_needperiod⟩ := ok_needperiod (P := P) (w := w) (base := base) T
  obtain ⟨f_costof, fd_costof, G_costof, g_costof, k_costof, b_costof⟩ := ok_costof (P := P) (w := w) (base := base) T
  obtain ⟨f_without, fd_without, G_without, g_without, k_without, b_without⟩ := ok_without (P := P) (w := w) (base := base) T
  obtain ⟨f_forced, fd_forced, G_forced, g_forced, k_forced, b_forced⟩ := ok_forced (P := P) (w := w) (base := base) T
  obtain ⟨f_withfree, fd_withfree, G_withfree, g_withfree, k_withfree, b_withfree⟩ := ok_withfree (P := P) (w := w) (base := base) T
  refine T.d_setuprange.ok fun f fd F => ?_
  refine F.ok sc_setuprange (fun vs H Q E h => ?_) (fun cdv A outer s H vs Q E hr h => ?_)
  · obtain ⟨p, q, a, b, c, e, Z, n, k, xs, rfl, _⟩ := h
    rfl
  · obtain ⟨p, q, a, b, c, e, Z, n, k, xs, rfl, hp, wf, h9, hx, po, hk, kk⟩ := h
    have hlx : xs.length = n := by rw [po.len, wf.ld]
    refine ⟨_, (pss_cons (ps_expr (pe_call G_needboth (hr.mono (by decide)) (by rfl) g_needboth k_needboth b_needboth .nil pass0 (pa_cons (pv 0) (pa_cons (pv 1) pa_nil))))
      (pss_cons (ps_expr (pe_call G_needperiod (hr.mono (by decide)) (by rfl) g_needperiod k_needperiod b_needperiod .nil pass0 (pa_cons (pv 0) (pa_cons (pv 2) pa_nil))))
      (pss_cons (ps_set (i := 3) sc_setuprange.nd rfl (.inl rfl) (pe_op op_sub (pe_call G_costof (hr.mono (by decide)) (by rfl) g_costof k_costof b_costof .nil pass0 (pa_cons (pv 0) (pa_cons (pv 1) pa_nil))) (pe_ifExp (pt_cmpR op_gt (pe_ix ix_tup (pv 1) (pv 2) (fun _ _ => rfl)) pe_int (nomark _)) (pe_ix ix_tup (pe_ix ix_tup (pv 0) pe_int (fun _ _ => rfl)) (pv 2) (fun _ _ => rfl)) pe_int)))
      (pss_cons (ps_par (i := 4) (j := 5) rfl sc_setuprange.nd rfl rfl (by decide) rfl rfl (pa_cons (pe_call G_without (hr.mono (by decide)) (by rfl) g_without k_without b_without .nil pass0 (pa_cons (pv 0) (pa_cons (pv 2) pa_nil))) (pa_cons (pe_call G_forced (hr.mono (by decide)) (by rfl) g_forced k_forced b_forced .nil pass0 (pa_cons (pe_call G_withfree (hr.mono (by decide)) (by rfl) g_withfree k_withfree b_withfree .nil pass0 (pa_cons (pv 0) (pa_cons (pv 2) pa_nil))) (pa_cons (pv 2) pa_nil))) pa_nil)) (by rfl))
      (pss_cons (ps_if (pt_cmpR op_gt (pe_ix ix_tup (pv 1) (pv 2) (fun _ _ => rfl)) pe_int (nomark _))
        (pss_cons (ps_if (PW.pt (pw_or (pt_cmpR op_isN (pv 5) pe_non (nomark _)) (pw_or (pt_cmpR op_gt (pv 3) (pv 5) (nomark _)) (pw_or1 (PW.pt (pw_and (pt_cmpR op_notN (pv 4) pe_non (nomark _)) (pw_and1 (pt_cmpR op_gt (pv 3) (pv 4) (nomark _)))))))))
            (pss_one (ps_ret pe_non))
            pss_nil)
          (pss_one (ps_ret (pe_tup (pa_cons pe_int (pa_cons (pe_ifExp (pt_cmpR op_isN (pv 4) pe_non (nomark _)) pe_non (pe_op op_sub (pv 4) (pv 3))) pa_nil))))))
        pss_nil)
      (pss_cons (ps_if (PW.pt (pw_or (pt_cmpR op_isN (pv 4) pe_non (nomark _)) (pw_or1 (pt_cmpR op_gt (pv 3) (pv 4) (nomark _)))))
        (pss_one (ps_ret pe_non))
        pss_nil)
      (pss_one (ps_ret (pe_tup (pa_cons (pe_ifExp (pt_cmpR op_isN (pv 5) pe_non (nomark _)) pe_int (pe_callB (call_max2 rfl) (by rfl) T.z_max (by decide +kernel) (pa_cons pe_int (pa_cons (pe_op op_sub (pv 3) (pv 5)) pa_nil)))) (pa_cons pe_non pa_nil))))))))))), ?_⟩
    refine ⟨_, rfl, _, rfl, p, q, a, b, c, e, Z, n, xs, rfl, hp, wf, h9, hx, po, fun H1 s1 => ?_⟩
    have hp1 := hp.same s1
    refine ⟨_, rfl, _, rfl, p, a, b, c, e, Z, n, k, rfl, hp1, wf, hk, ?_⟩
    refine ⟨_, rfl, _, rfl, p, q, a, b, c, e, Z, n, xs, rfl, hp1, wf, hx.same s1, hlx, fun H2 s2 => ?_⟩
    have s12 := s1.trans s2
    have hp2 := hp1.same s2
    have ax : atI (xs.map V.int) (k : Int) = some (.int (g xs k)) := g_at (by rw [hlx]; exact hk)
    by_cases hpos : 0 < g xs k
    · rw [decide_eq_true hpos, if_pos hpos] at kk
      refine ⟨_, rfl, _, rfl, q, _, _, _, rfl, rfl, SqT.of (hx.same s12), ax, _, _, rfl, rfl, _, rfl, iteDT hpos ?_⟩
      refine ⟨_, rfl, p, _, 1, _, rfl, rfl, SqT.of hp2.top, at1, _, rfl, _, _, _, _, rfl, rfl, SqT.of hp2.s, g_at (by rw [wf.ls]; exact hk), _, _, rfl, rfl, ?_⟩
      refine ⟨_, rfl, _, rfl, p, a, b, c, e, Z, n, k, rfl, hp2, wf, hk, fun H3 wt s3 hw => ?_⟩
      refine ⟨_, rfl, _, rfl, p, a, b, c, e, Z, n, k, rfl, hp2.same s3, wf, hk, fun H4 p' b' s4 hp' => ?_⟩
      refine ⟨_, rfl, p', a, b', c, e, setS Z k 0, n, k, rfl, hp', wf.setS hk (Int.le_refl 0), hk, fun H5 t r s5 st F => ?_⟩
      have s15 := s12.trans (s3.trans (s4.trans s5))
      have kk2 := fun H' v (s : Same H5 H') => kk H' v wt t r (s15.trans s) hw st F
      clear kk
      refine ⟨_, _, rfl, ?_⟩
      refine ⟨_, rfl, _, rfl, q, _, _, _, rfl, rfl, SqT.of (hx.same s15), ax, _, _, rfl, rfl, _, rfl, iteDT hpos ?_⟩
      generalize hP : cpre Z xs n - g Z.s k = paid at kk2
      generalize ot wt n = O at kk2 ⊢
      refine ⟨_, rfl, rfl, _, rfl, ?_⟩
      cases r with
      | none =>
        refine iteT ?_
        exact kk2 H5 .non (Same.refl _) rfl
      | some f =>
        refine iteF ?_
        refine ⟨_, rfl, _, rfl, _, _, rfl, rfl, _, rfl, ite2 (fun h1 => ?_) (fun h1 => ?_)⟩
        · refine iteT ?_
          refine kk2 H5 .non (Same.refl _) ?_
          unfold srM
          rw [if_pos rfl]
          simp only
          rw [if_pos (hP ▸ of_decide_eq_true h1 : f < paid)]
          rfl
        · have h1' : ¬ f < paid := fun z => h1 (decide_eq_true (hP.symm ▸ z))
          refine ⟨_, rfl, rfl, _, rfl, ?_⟩
          cases O with
          | none =>
            refine iteF ?_
            refine iteF ?_
            refine ⟨_, rfl, rfl, _, rfl, iteT ?_⟩
            refine ⟨len1000 (by show 2 ≤ 1000; omega), fun pr npr => ?_⟩
            refine kk2 _ (.ref pr) (same_upd npr) ?_
            unfold srM
            rw [if_pos rfl]
            simp only
            rw [if_neg h1']
            exact ⟨pr, rfl, upd_same⟩
          | some o =>
            refine iteT ?_
            refine ⟨_, rfl, _, rfl, _, _, rfl, rfl, _, rfl, ite2 (fun h2 => ?_) (fun h2 => ?_)⟩
            · refine kk2 H5 .non (Same.refl _) ?_
              unfold srM
              rw [if_pos rfl]
              simp only
              rw [if_neg h1', if_pos (hP ▸ of_decide_eq_true h2 : o < paid)]
              rfl
            · have h2' : ¬ o < paid := fun z => h2 (decide_eq_true (hP.symm ▸ z))
              refine ⟨_, rfl, rfl, _, rfl, iteF ?_⟩
              refine ⟨_, rfl, _, rfl, _, _, rfl, rfl, len1000 (by show 2 ≤ 1000; omega), fun pr npr => ?_⟩
              refine kk2 _ (.ref pr) (same_upd npr) ?_
              unfold srM
              rw [if_pos rfl]
              simp only
              rw [if_neg h1', if_neg h2', ← hP]
              exact ⟨pr, rfl, upd_same⟩
    · rw [decide_eq_false hpos, if_neg hpos, Int.sub_zero] at kk
      refine ⟨_, rfl, _, rfl, q, _, _, _, rfl, rfl, SqT.of (hx.same s12), ax, _, _, rfl, rfl, _, rfl, iteDF hpos ?_⟩
      refine ⟨_, _, rfl, rfl, ?_⟩
      refine ⟨_, rfl, _, rfl, p, a, b, c, e, Z, n, k, rfl, hp2, wf, hk, fun H3 wt s3 hw => ?_⟩
      refine ⟨_, rfl, _, rfl, p, a, b, c, e, Z, n, k, rfl, hp2.same s3, wf, hk, fun H4 p' b' s4 hp' => ?_⟩
      refine ⟨_, rfl, p', a, b', c, e, setS Z k 0, n, k, rfl, hp', wf.setS hk (Int.le_refl 0), hk, fun H5 t r s5 st F => ?_⟩
      have s15 := s12.trans (s3.trans (s4.trans s5))
      have kk2 := fun H' v (s : Same H5 H') => kk H' v wt t r (s15.trans s) hw st F
      clear kk
      refine ⟨_, _, rfl, ?_⟩
      refine ⟨_, rfl, _, rfl, q, _, _, _, rfl, rfl, SqT.of (hx.same s15), ax, _, _, rfl, rfl, _, rfl, iteDF hpos ?_⟩
      rw [← Int.sub_zero (cpre Z xs n)] at kk2
      generalize hP : cpre Z xs n - 0 = paid at kk2
      generalize ot wt n = O at kk2 ⊢
      refine ⟨_, rfl, rfl, _, rfl, ?_⟩
      cases O with
      | none =>
        refine iteT ?_
        exact kk2 H5 .non (Same.refl _) rfl
      | some o =>
        refine iteF ?_
        refine ⟨_, rfl, _, rfl, _, _, rfl, rfl, _, rfl, ite2 (fun h1 => ?_) (fun h1 => ?_)⟩
        · refine kk2 H5 .non (Same.refl _) ?_
          have h1' : o < paid := hP ▸ of_decide_eq_true h1
          unfold srM
          rw [if_neg Bool.false_ne_true]
          simp only
          rw [if_pos h1']
          rfl
        · have h1' : ¬ o < paid := fun z => h1 (decide_eq_true (hP.symm ▸ z))
          refine ⟨_, rfl, rfl, _, rfl, ?_⟩
          cases r with
          | none =>
            refine iteT ?_
            refine ⟨len1000 (by show 2 ≤ 1000; omega), fun pr npr => ?_⟩
            refine kk2 _ (.ref pr) (same_upd npr) ?_
            unfold srM
            rw [if_neg Bool.false_ne_true]
            simp only
            rw [if_neg h1']
            exact ⟨pr, rfl, upd_same⟩
          | some f =>
            refine iteF ?_
            refine ⟨_, rfl, _, rfl, _, _, rfl, rfl, _, _, rfl, len1000 (by show 2 ≤ 1000; omega), fun pr npr => ?_⟩
            refine kk2 _ (.ref pr) (same_upd npr) ?_
            unfold srM
            rw [if_neg Bool.false_ne_true]
            simp only
            rw [if_neg h1', ← hP]
            exact ⟨pr, rfl, upd_same⟩
end
end Lp

/-! the law's draws: _law_taken, _law_pick. -/
namespace Lp
open PySem PySem.Spec PyProof.Rows L2 LpR
/-- all but r is as it was -/
def SameX (r : Addr) (H H' : Hp) : Prop := ∀ b o, H b = some o → b ≠ r → H' b = some o
theorem SameX.refl {r : Addr} {H : Hp} : SameX r H H := fun _ _ h _ => h
theorem SameX.trans {r : Addr} {H H1 H2 : Hp} (a : SameX r H H1) (b : SameX r H1 H2) : SameX r H H2 := fun c o h n => b c o (a c o h n) n
theorem Same.x {r : Addr} {H H1 : Hp} (a : Same H H1) : SameX r H H1 := fun c o h _ => a c o h
theorem sameX_upd {r : Addr} {H : Hp} {o : HO} : SameX r H (upd H r o) := fun b z h n => by
  rw [upd_ne n]
  exact h
/-- the script: locked, or to be read whatever the heap is -/
def Scr (K : PySem.W.Frag) (H : Hp) (a : Addr) (xs : List V) : Prop := (∃ o, H a = some (.frz o (.lst xs))) ∨ ∀ Hany : Hp, SqL K Hany a xs
theorem Scr.sq {K : PySem.W.Frag} {H : Hp} {a : Addr} {xs : List V} (h : Scr K H a xs) : SqL K H a xs := by
  rcases h with h | h
  · exact .inl (.inr h)
  · exact h H
theorem Scr.same {K : PySem.W.Frag} {H H' : Hp} {a : Addr} {xs : List V} (h : Scr K H a xs) (s : Same H H') : Scr K H' a xs := by
  rcases h with ⟨o, h⟩ | h
  · exact .inl ⟨o, s _ _ h⟩
  · exact .inr h
structure RowAt (K : PySem.W.Frag) (H : Hp) (r a : Addr) (ns : List Int) : Prop where
  ex : ∃ i j d : Int, H r = some (.lst [.ref a, .int i, .int j, .int d]) ∧ 0 ≤ i ∧ 0 ≤ j ∧ j < 2147483647
  sq : Scr K H a (ns.map V.int)
theorem seq_keep {K : PySem.W.Frag} {H H' : Hp} {r a : Addr} {ys xs : List V} (hr : H r = some (.lst ys)) (s : SameX r H H') (h : Scr K H a xs) : Scr K H' a xs := by
  rcases h with ⟨o, h⟩ | h
  · refine .inl ⟨o, s _ _ h fun e => ?_⟩
    rw [e, hr] at h
    cases h
  · exact .inr h
theorem RowAt.same {K : PySem.W.Frag} {H H' : Hp} {r a : Addr} {ns : List Int} (R : RowAt K H r a ns) (s : Same H H') : RowAt K H' r a ns := by
  obtain ⟨i, j, d, h, h2⟩ := R.ex
  exact ⟨⟨i, j, d, s _ _ h, h2⟩, R.sq.same s⟩
theorem TI.sameX {H H' : Hp} {a r : Addr} {ns : List Int} {xs : List V} (h : TI H a ns) (hr : H r = some (.lst xs)) (s : SameX r H H') : TI H' a ns := s _ _ h (ne_of h hr (by intro z; cases z))
section
variable {P : Program} {w : World} {K : PySem.W.Frag} {mg : Str → Option Value} {base : Heap}
def sp_Ltaken (K : PySem.W.Frag) : Sp := fun vs H Q _ => ∃ (r a : Addr) (ns : List Int) (m : Int), vs = [.ref r, .int m] ∧ RowAt K H r a ns ∧ 0 < m ∧ m < 1073741824 ∧ ∀ H' v, SameX r H H' → RowAt K H' r a ns → 0 ≤ v → v < m → Q (.int v) H'
theorem ok_Ltaken (T : Txt K mg) : Ok P w K mg base 1 "_law_taken" ["_law_row_here", "_law_many"] (sp_Ltaken K) := by
  refine T.d_Ltaken.ok fun f fd F => ?_
  refine F.ok sc_Ltaken (fun vs H Q E h => ?_) (fun cdv A outer s H vs Q E hr h => ?_)
  · obtain ⟨r, a, ns, m, rfl, _⟩ := h
    rfl
  · obtain ⟨r, a, ns, m, rfl, R, hm, hm2, q⟩ := h
    obtain ⟨i, j, d, hr0, hi, hj, hj2⟩ := R.ex
    have sq := R.sq
    have wr : ∀ {H1 : Hp} {i j d : Int} {o : HO}, H1 r = some (.lst [.ref a, .int i, .int j, .int d]) → Scr K H1 a (ns.map V.int) → Scr K (upd H1 r o) a (ns.map V.int) := fun h1 h2 => seq_keep h1 sameX_upd h2
    have em : ∀ x : Int, 0 ≤ x % m ∧ x % m < m := fun x => ⟨Int.emod_nonneg _ (by omega), Int.emod_lt_of_pos _ hm⟩
    refine ⟨_, (pss_cons (ps_if (pt_cmpR op_gt (pe_ix ix_list (pv 0) pe_int (fun _ _ => rfl)) pe_int (nomark _))
        (pss_cons (ps_set (i := 2) sc_Ltaken.nd rfl (.inl rfl) (pe_op op_mod (pe_callTy call_int1 (by rfl) T.z_int (by decide +kernel) (pa_cons (pe_ix ix_list (pv 0) pe_int (fun _ _ => rfl)) pa_nil)) (pv 1)))
          (pss_cons (ps_asg (pe_op op_fdiv (pe_ix ix_list (pv 0) pe_int (fun _ _ => rfl)) (pv 1)) (pg_sub (pv 0) pe_int set_list))
          (pss_one (ps_ret (pv 2)))))
        pss_nil)
      (pss_cons (ps_asg (pe_op op_add (pe_ix ix_list (pv 0) pe_int (fun _ _ => rfl)) pe_int) (pg_sub (pv 0) pe_int set_list))
      (pss_cons (ps_if (pt_cmpR op_gt (pe_ix ix_list (pv 0) pe_int (fun _ _ => rfl)) (pe_callB call_len_seq (by rfl) T.z_len PySem.boot_len (pa_cons (pe_ix ix_list (pv 0) pe_int (fun _ _ => rfl)) pa_nil)) (nomark _))
        (pss_cons (ps_asg (pe_op op_mod (pe_callTy call_int1 (by rfl) T.z_int (by decide +kernel) (pa_cons (pe_op op_add (pe_op op_mul (pe_ix ix_list (pv 0) pe_int (fun _ _ => rfl)) pe_int) pe_int) pa_nil)) pe_int) (pg_sub (pv 0) pe_int set_list))
          (pss_one (ps_ret (pe_op op_mod (pe_callTy call_int1 (by rfl) T.z_int (by decide +kernel) (pa_cons (pe_op op_fdiv (pe_ix ix_list (pv 0) pe_int (fun _ _ => rfl)) pe_int) pa_nil)) (pv 1)))))
        pss_nil)
      (pss_cons (ps_set (i := 3) sc_Ltaken.nd rfl (.inl rfl) (pe_ix ix_list (pe_ix ix_list (pv 0) pe_int (fun _ _ => rfl)) (pe_op op_sub (pe_ix ix_list (pv 0) pe_int (fun _ _ => rfl)) pe_int) (fun _ _ => rfl)))
      (pss_cons (ps_asg (pe_op op_mod (pe_callTy call_int1 (by rfl) T.z_int (by decide +kernel) (pa_cons (pe_op op_add (pe_op op_add (pe_op op_mul (pe_ix ix_list (pv 0) pe_int (fun _ _ => rfl)) pe_int) (pv 3)) pe_int) pa_nil)) pe_int) (pg_sub (pv 0) pe_int set_list))
      (pss_cons (ps_if (pt_cmpR op_ge (pv 3) (pe_op op_pow pe_int pe_int) (nomark _))
        (pss_one (ps_asg (pe_op op_fdiv (pv 3) (pv 1)) (pg_sub (pv 0) pe_int set_list)))
        pss_nil)
      (pss_one (ps_ret (pe_op op_mod (pe_callTy call_int1 (by rfl) T.z_int (by decide +kernel) (pa_cons (pv 3) pa_nil)) (pv 1)))))))))), ?_⟩
    refine ⟨_, rfl, r, _, 3, _, rfl, rfl, SqL.of hr0, at3, _, _, rfl, rfl, _, rfl, ?_⟩
    refine ite2 (fun hd => ?_) (fun hd => ?_)
    · refine ⟨_, rfl, r, _, 3, _, rfl, rfl, SqL.of hr0, at3, .inl ⟨_, rfl, _, rfl, _, _, rfl, rfl, hm, ?_⟩⟩
      refine ⟨_, rfl, r, _, 3, _, rfl, rfl, SqL.of hr0, at3, _, rfl, _, _, rfl, rfl, ⟨hm, hm2⟩, ?_⟩
      refine ⟨_, rfl, r, _, 3, 3, rfl, rfl, hr0, rfl, ?_⟩
      refine ⟨_, rfl, q _ _ sameX_upd ⟨⟨i, j, _, upd_same, hi, hj, hj2⟩, wr hr0 sq⟩ (em d).1 (em d).2⟩
    · refine ⟨_, rfl, r, _, 1, _, rfl, rfl, SqL.of hr0, at1, _, _, rfl, rfl, _, rfl, r, _, 1, 1, rfl, rfl, hr0, rfl, ?_⟩
      have h1 : (upd H r (.lst [.ref a, .int (i + 1), .int j, .int d])) r = some (.lst [.ref a, .int (i + 1), .int j, .int d]) := upd_same
      have sq1 : Scr K (upd H r (.lst [.ref a, .int (i + 1), .int j, .int d])) a (ns.map V.int) := wr hr0 sq
      have x1 : SameX r H (upd H r (.lst [.ref a, .int (i + 1), .int j, .int d])) := sameX_upd
      refine ⟨_, rfl, r, _, 1, _, rfl, rfl, SqL.of h1, at1, _, rfl, r, _, 0, _, rfl, rfl, SqL.of h1, at0, a, _, rfl, .inl sq1.sq, _, _, rfl, rfl, _, rfl, ?_⟩
      rw [List.length_map]
      refine ite2 (fun hl => ?_) (fun hl => ?_)
      · refine ⟨_, rfl, r, _, 2, _, rfl, rfl, SqL.of h1, at2, _, _, rfl, rfl, .inl ⟨by omega, by omega⟩, _, _, rfl, rfl, .inl ⟨_, rfl, _, _, rfl, rfl, (by show (0 : Int) < 2147483647; omega), _, rfl, r, _, 2, 2, rfl, rfl, h1, rfl, ?_⟩⟩
        have em2 : ∀ x : Int, 0 ≤ x % 2147483647 ∧ x % 2147483647 < 2147483647 := fun x => ⟨Int.emod_nonneg _ (by omega), Int.emod_lt_of_pos _ (by omega)⟩
        refine ⟨_, rfl, r, _, 2, _, rfl, rfl, SqL.of upd_same, at2, _, _, rfl, rfl, ⟨by omega, by omega⟩, .inl ⟨_, rfl, _, rfl, _, _, rfl, rfl, hm, ?_⟩⟩
        exact q _ _ (x1.trans sameX_upd) ⟨⟨_, _, _, upd_same, by omega, (em2 _).1, (em2 _).2⟩, wr h1 sq1⟩ (em _).1 (em _).2
      · have hl' : ¬ ((ns.length : Int) < i + 1) := fun z => hl (decide_eq_true z)
        obtain ⟨t, rfl⟩ : ∃ t : Nat, i = (t : Int) := ⟨i.toNat, by omega⟩
        have ht : t < ns.length := by omega
        have hat : atI (ns.map V.int) ((t : Int) + 1 - 1) = some (.int (g ns t)) := by
          rw [show (t : Int) + 1 - 1 = (t : Int) by omega]
          exact g_at ht
        generalize hcell : g ns t = cell at hat
        refine ⟨_, rfl, r, _, 0, _, rfl, rfl, SqL.of h1, at0, _, rfl, r, _, 1, _, rfl, rfl, SqL.of h1, at1, _, _, rfl, rfl, a, _, _, _, rfl, rfl, sq1.sq, hat, ?_⟩
        refine ⟨_, rfl, r, _, 2, _, rfl, rfl, SqL.of h1, at2, _, _, rfl, rfl, .inl ⟨by omega, by omega⟩, _, rfl, _, _, rfl, rfl, _, _, rfl, rfl, .inl ⟨_, rfl, _, _, rfl, rfl, (by show (0 : Int) < 2147483647; omega), _, rfl, r, _, 2, 2, rfl, rfl, h1, rfl, ?_⟩⟩
        have em2 : ∀ x : Int, 0 ≤ x % 2147483647 ∧ x % 2147483647 < 2147483647 := fun x => ⟨Int.emod_nonneg _ (by omega), Int.emod_lt_of_pos _ (by omega)⟩
        have hz := em2 (j * 48271 + cell + 11)
        have h2 : (upd (upd H r (.lst [.ref a, .int ((t : Int) + 1), .int j, .int d])) r (.lst [.ref a, .int ((t : Int) + 1), .int ((j * 48271 + cell + 11) % 2147483647), .int d])) r = some (.lst [.ref a, .int ((t : Int) + 1), .int ((j * 48271 + cell + 11) % 2147483647), .int d]) := upd_same
        have sq2 := wr (o := .lst [.ref a, .int ((t : Int) + 1), .int ((j * 48271 + cell + 11) % 2147483647), .int d]) h1 sq1
        have x2 := x1.trans (sameX_upd (r := r) (H := upd H r (.lst [.ref a, .int ((t : Int) + 1), .int j, .int d])) (o := .lst [.ref a, .int ((t : Int) + 1), .int ((j * 48271 + cell + 11) % 2147483647), .int d]))
        refine ⟨_, rfl, _, _, rfl, rfl, ⟨by decide, by decide, by decide⟩, _, _, rfl, rfl, _, rfl, ?_⟩
        refine ite2 (fun hc => ?_) (fun hc => ?_)
        · refine ⟨_, rfl, _, rfl, _, _, rfl, rfl, ⟨hm, hm2⟩, _, rfl, r, _, 3, 3, rfl, rfl, h2, rfl, ?_⟩
          exact ⟨_, rfl, .inl ⟨_, rfl, _, rfl, _, _, rfl, rfl, hm, q _ _ (x2.trans sameX_upd) ⟨⟨_, _, _, upd_same, by omega, hz.1, hz.2⟩, wr h2 sq2⟩ (em _).1 (em _).2⟩⟩
        · exact ⟨_, rfl, .inl ⟨_, rfl, _, rfl, _, _, rfl, rfl, hm, q _ _ x2 ⟨⟨_, _, _, h2, by omega, hz.1, hz.2⟩, sq2⟩ (em _).1 (em _).2⟩⟩
end
end Lp

/-! _law_pick, _law_whole, _law_entries, _law_steps, _law_problem. -/
namespace Lp
open PySem PySem.Spec PyProof.Rows L2 LpR
theorem RowAt.lst {K : PySem.W.Frag} {H : Hp} {r a : Addr} {ns : List Int} (R : RowAt K H r a ns) : ∃ xs, H r = some (.lst xs) := by
  obtain ⟨i, j, d, h, _⟩ := R.ex
  exact ⟨_, h⟩
theorem TI.keepR {K : PySem.W.Frag} {H H' : Hp} {r a q : Addr} {ns ms : List Int} (h : TI H q ms) (R : RowAt K H r a ns) (s : SameX r H H') : TI H' q ms := by
  obtain ⟨xs, hr⟩ := R.lst
  exact h.sameX hr s
theorem RowAt.new {K : PySem.W.Frag} {H H' : Hp} {r a : Addr} {ns : List Int} (R : RowAt K H r a ns) (s : Same H H') : RowAt K H' r a ns := R.same s
/-- a comprehension over a range whose elements draw -/
theorem lc_draw {K : PySem.W.Frag} {n : Nat} {k : Int} {te : TE} {j : Nat} {vs : List Nat} {σ : L2.St} {H1 : Hp} {D r a : Addr} {ns : List Int} {Qd : Hp → Prop} (B : Int → Prop) (hk : k = 0) (hn : n ≤ 1000) (hD : H1 D = none) (R : RowAt K H1 r a ns)
    (hs : ∀ (i : Nat) (H : Hp) (Rr : VK), i < n → SameX r H1 H → RowAt K H r a ns → (∀ H4 v, SameX r H H4 → RowAt K H4 r a ns → B v → Rr (.int v) H4) → gName j (.int ((0 + i : Nat) : Int)) (wipe σ vs) H fun σ2 H2 => wipe σ2 vs = wipe σ vs ∧ te σ2 H2 Rr)
    (hd : ∀ (H : Hp) (xs : List Int), SameX r H1 H → RowAt K H r a ns → H D = some (.lst (xs.map V.int)) → xs.length = n → (∀ x ∈ xs, B x) → Qd H) :
    LcEnd (Itr k n) (gName j) tYes te vs σ H1 D Qd := by
  subst hk
  have hDr : D ≠ r := by
    obtain ⟨xs, hr⟩ := R.lst
    exact (ne_of_none hr hD).symm
  refine lc_range (fun i H => SameX r H1 H ∧ RowAt K H r a ns ∧ ∃ xs : List Int, H D = some (.lst (xs.map V.int)) ∧ xs.length = i ∧ ∀ x ∈ xs, B x) ⟨Same.x (same_upd hD), R.same (same_upd hD), [], upd_same, rfl, fun x h => by cases h⟩ (fun i H hi ⟨sx, R1, xs, hl, hlen, hB⟩ => ?_) fun H ⟨sx, R1, xs, hl, hlen, hB⟩ => hd H xs sx R1 hl hlen hB
  have e : ((0 : Int) + (i : Int)) = ((0 + i : Nat) : Int) := by omega
  rw [e]
  have key := hs i H (fun y H4 => ∃ acc, H4 D = some (.lst acc) ∧ acc.length < sizeLine ∧ SameX r H1 (upd H4 D (.lst (acc ++ [y]))) ∧ RowAt K (upd H4 D (.lst (acc ++ [y]))) r a ns ∧ ∃ xs : List Int, (upd H4 D (.lst (acc ++ [y]))) D = some (.lst (xs.map V.int)) ∧ xs.length = i + 1 ∧ ∀ x ∈ xs, B x) hi sx R1 (fun H4 v s4 R4 hv => ?_)
  · exact key
  · have h4 := s4 _ _ hl hDr
    obtain ⟨i4, j4, d4, hr4, hb4⟩ := R4.ex
    refine ⟨_, h4, by rw [List.length_map, hlen]; exact small1000 (by omega), fun b o ho hb => ?_, ⟨⟨i4, j4, d4, ?_, hb4⟩, ?_⟩, xs ++ [v], ?_, by rw [List.length_append, hlen]; rfl, fun x hx => ?_⟩
    · rw [upd_ne (ne_of_none ho hD)]
      exact s4 _ _ (sx _ _ ho hb) hb
    · rw [upd_ne hDr.symm]
      exact hr4
    · exact seq_keep h4 sameX_upd R4.sq
    · rw [upd_same, List.map_append]
      rfl
    · rcases List.mem_append.mp hx with hx | hx
      · exact hB x hx
      · rw [List.mem_singleton.mp hx]
        exact hv
/-- .. whose elements are new tuples of drawn numbers -/
theorem lc_drawT {K : PySem.W.Frag} {n : Nat} {k : Int} {te : TE} {j : Nat} {vs : List Nat} {σ : L2.St} {H1 : Hp} {D r a : Addr} {ns : List Int} {Qd : Hp → Prop} (B : List Int → Prop) (hk : k = 0) (hn : n ≤ 1000) (hD : H1 D = none) (R : RowAt K H1 r a ns)
    (hs : ∀ (i : Nat) (H : Hp) (Rr : VK), i < n → SameX r H1 H → RowAt K H r a ns → (∀ H4 q xs, SameX r H H4 → RowAt K H4 r a ns → TI H4 q xs → B xs → Rr (.ref q) H4) → gName j (.int ((0 + i : Nat) : Int)) (wipe σ vs) H fun σ2 H2 => wipe σ2 vs = wipe σ vs ∧ te σ2 H2 Rr)
    (hd : ∀ (H : Hp) (qs : List Addr), SameX r H1 H → RowAt K H r a ns → H D = some (.lst (qs.map V.ref)) → qs.length = n → (∀ q ∈ qs, ∃ xs, TI H q xs ∧ B xs) → Qd H) :
    LcEnd (Itr k n) (gName j) tYes te vs σ H1 D Qd := by
  subst hk
  have hDr : D ≠ r := by
    obtain ⟨xs, hr⟩ := R.lst
    exact (ne_of_none hr hD).symm
  refine lc_range (fun i H => SameX r H1 H ∧ RowAt K H r a ns ∧ ∃ qs : List Addr, H D = some (.lst (qs.map V.ref)) ∧ qs.length = i ∧ ∀ q ∈ qs, ∃ xs, TI H q xs ∧ B xs) ⟨Same.x (same_upd hD), R.same (same_upd hD), [], upd_same, rfl, fun x h => by cases h⟩ (fun i H hi ⟨sx, R1, qs, hl, hlen, hB⟩ => ?_) fun H ⟨sx, R1, qs, hl, hlen, hB⟩ => hd H qs sx R1 hl hlen hB
  have e : ((0 : Int) + (i : Int)) = ((0 + i : Nat) : Int) := by omega
  rw [e]
  have key := hs i H (fun y H4 => ∃ acc, H4 D = some (.lst acc) ∧ acc.length < sizeLine ∧ SameX r H1 (upd H4 D (.lst (acc ++ [y]))) ∧ RowAt K (upd H4 D (.lst (acc ++ [y]))) r a ns ∧ ∃ qs : List Addr, (upd H4 D (.lst (acc ++ [y]))) D = some (.lst (qs.map V.ref)) ∧ qs.length = i + 1 ∧ ∀ q ∈ qs, ∃ xs, TI (upd H4 D (.lst (acc ++ [y]))) q xs ∧ B xs) hi sx R1 (fun H4 q xs s4 R4 hq hv => ?_)
  · exact key
  · have h4 := s4 _ _ hl hDr
    obtain ⟨i4, j4, d4, hr4, hb4⟩ := R4.ex
    have keepT : ∀ {q : Addr} {ms : List Int} {o : HO}, TI H4 q ms → TI (upd H4 D o) q ms := fun {q ms o} h => by
      show (upd H4 D o) q = _
      rw [upd_ne (ne_of h h4 (by intro z; cases z))]
      exact h
    refine ⟨_, h4, by rw [List.length_map, hlen]; exact small1000 (by omega), fun b o ho hb => ?_, ⟨⟨i4, j4, d4, ?_, hb4⟩, ?_⟩, qs ++ [q], ?_, by rw [List.length_append, hlen]; rfl, fun x hx => ?_⟩
    · rw [upd_ne (ne_of_none ho hD)]
      exact s4 _ _ (sx _ _ ho hb) hb
    · rw [upd_ne hDr.symm]
      exact hr4
    · exact seq_keep h4 sameX_upd R4.sq
    · rw [upd_same, List.map_append]
      rfl
    · rcases List.mem_append.mp hx with hx | hx
      · obtain ⟨ms, hm, hb⟩ := hB x hx
        exact ⟨ms, keepT (hm.keepR R1 s4), hb⟩
      · rw [List.mem_singleton.mp hx]
        exact ⟨xs, keepT hq, hv⟩
section
variable {P : Program} {w : World} {K : PySem.W.Frag} {mg : Str → Option Value} {base : Heap}
def sp_Lpick (K : PySem.W.Frag) : Sp := fun vs H Q _ => ∃ (r a t : Addr) (ns : List Int) (xs : List V), vs = [.ref r, .ref t] ∧ RowAt K H r a ns ∧ H t = some (.lst xs) ∧ t ≠ r ∧ 0 < xs.length ∧ xs.length ≤ 1000 ∧
  ∀ H' x, SameX r H H' → RowAt K H' r a ns → x ∈ xs → Q x H'
theorem ok_Lpick (T : Txt K mg) : Ok P w K mg base 2 "_law_pick" ["_law_row_here", "_law_things"] (sp_Lpick K) := by
  obtain ⟨f_Ltaken, fd_Ltaken, G_Ltaken, g_Ltaken, k_Ltaken, b_Ltaken⟩ := ok_Ltaken (P := P) (w := w) (base := base) T
  refine T.d_Lpick.ok fun f fd F => ?_
  refine F.ok sc_Lpick (fun vs H Q E h => ?_) (fun cdv A outer s H vs Q E hr h => ?_)
  · obtain ⟨r, a, t, ns, xs, rfl, _⟩ := h
    rfl
  · obtain ⟨r, a, t, ns, xs, rfl, R, ht, htr, h0, h1, q⟩ := h
    refine ⟨_, (pss_one (ps_ret (pe_ix ix_list (pv 1) (pe_call G_Ltaken (hr.mono (by decide)) (by rfl) g_Ltaken k_Ltaken b_Ltaken .nil pass0 (pa_cons (pv 0) (pa_cons (pe_callB call_len_seq (by rfl) T.z_len PySem.boot_len (pa_cons (pv 1) pa_nil)) pa_nil))) (fun _ _ => rfl)))), ?_⟩
    refine ⟨_, rfl, _, rfl, _, rfl, t, _, rfl, .inl (SqL.of ht), r, a, ns, _, rfl, R, by omega, by omega, fun H1 v x1 R1 v0 v1 => ?_⟩
    obtain ⟨j, rfl⟩ : ∃ j : Nat, v = (j : Int) := ⟨v.toNat, by omega⟩
    have hj : j < xs.length := by omega
    exact ⟨t, xs, _, xs[j], rfl, rfl, SqL.of (x1 _ _ ht htr), atI_nat (List.getElem?_eq_getElem hj), q H1 _ x1 R1 (List.getElem_mem hj)⟩
def sp_Lwhole : Sp := fun vs H Q _ => ∃ i l m : Int, vs = [.int i, .int l, .int m] ∧ Q (.bl (decide (l ≤ i) && decide (i ≤ m))) H
theorem ok_Lwhole (T : Txt K mg) : Ok P w K mg base 1 "_law_whole" ["_law_value", "_law_least_here", "_law_most"] sp_Lwhole := by
  refine T.d_Lwhole.ok fun f fd F => ?_
  refine F.ok sc_Lwhole (fun vs H Q E h => ?_) (fun cdv A outer s H vs Q E hr h => ?_)
  · obtain ⟨i, l, m, rfl, _⟩ := h
    rfl
  · obtain ⟨i, l, m, rfl, q⟩ := h
    refine ⟨_, (pss_one (ps_ret (pe_and (pe_callB call_isi (by rfl) T.z_isinstance (by decide +kernel) (pa_cons (pv 0) (pa_cons (pe_bltn (v := .ty "int") (by rfl) T.z_int (by decide +kernel) rfl) pa_nil))) (pe_and (pe_not (pe_callB call_isi (by rfl) T.z_isinstance (by decide +kernel) (pa_cons (pv 0) (pa_cons (pe_bltn (v := .ty "bool") (by rfl) T.z_bool (by decide +kernel) rfl) pa_nil)))) (pe_one (pe_chain op_le op_le (pv 1) (pv 0) (pv 2))))))), ?_⟩
    refine ⟨_, rfl, _, _, _, _, _, rfl, .ty "int", ty_int _ i, kit_ty kb1, true, rfl, iteT ?_⟩
    refine ⟨_, rfl, _, _, _, _, _, rfl, .ty "bool", ty_int _ i, kit_ty kb2, false, rfl, true, rfl, iteT ?_⟩
    refine ⟨_, rfl, _, rfl, _, _, rfl, rfl, _, rfl, ?_⟩
    refine ite2 (fun h => ?_) (fun h => ?_)
    · rw [h, Bool.true_and] at q
      exact ⟨_, rfl, _, _, rfl, rfl, q⟩
    · rw [Bool.eq_false_iff.mpr h, Bool.false_and] at q
      exact q
def sp_Lentries (K : PySem.W.Frag) : Sp := fun vs H Q _ => ∃ (r a : Addr) (ns : List Int) (n : Nat) (m : Int), vs = [.ref r, .int (n : Int), .int m] ∧ RowAt K H r a ns ∧ n ≤ 12 ∧ 0 < m ∧ m < 1073741824 ∧
  ∀ H' q xs, SameX r H H' → RowAt K H' r a ns → TI H' q xs → xs.length = n → (∀ x ∈ xs, 0 ≤ x ∧ x < m) → Q (.ref q) H'
theorem ok_Lentries (T : Txt K mg) : Ok P w K mg base 2 "_law_entries" ["_law_row_here", "_law_many", "_law_most"] (sp_Lentries K) := by
  obtain ⟨f_Ltaken, fd_Ltaken, G_Ltaken, g_Ltaken, k_Ltaken, b_Ltaken⟩ := ok_Ltaken (P := P) (w := w) (base := base) T
  refine T.d_Lentries.ok fun f fd F => ?_
  refine F.ok sc_Lentries (fun vs H Q E h => ?_) (fun cdv A outer s H vs Q E hr h => ?_)
  · obtain ⟨r, a, ns, n, m, rfl, _⟩ := h
    rfl
  · obtain ⟨r, a, ns, n, m, rfl, R, hn, hm, hm2, q⟩ := h
    refine ⟨_, (pss_one (ps_ret (pe_callTy call_tuple_of (by rfl) T.z_tuple (by decide +kernel) (pa_cons (pe_lc (own := [("_law_at", 3)]) (g := gName 3) (tt := tYes) rfl sc_Lentries.nd (pi_range1 (by rfl) T.z_range (pa_cons (pv 1) pa_nil)) (blkOk_by (own := [("_law_at", 3)]) (N := N_Lentries) (sc := defScope s_Lentries) (by decide +kernel)) (fun _ _ _ _ _ => pg_name (i := 3) sc_Lentries.nd rfl (Or.inl rfl)) (fun _ _ _ _ _ => pts_nil) (fun _ _ _ _ _ => (pe_call G_Ltaken (hr.mono (by decide)) (by rfl) g_Ltaken k_Ltaken b_Ltaken .nil pass0 (pa_cons (pv 0) (pa_cons (pv 2) pa_nil))))) pa_nil)))), ?_⟩
    refine ⟨_, rfl, _, rfl, by omega, by omega, fun D hD => ?_⟩
    rw [Int.toNat_natCast]
    refine lc_draw (fun x => 0 ≤ x ∧ x < m) rfl (by omega) hD R (fun i H1 Rr hi x1 R1 k => ⟨rfl, ?_⟩) (fun H1 xs x1 R1 hl hlen hB => ?_)
    · exact ⟨_, rfl, _, rfl, r, a, ns, m, rfl, R1, hm, hm2, fun H2 v x2 R2 v0 v1 => k H2 v x2 R2 ⟨v0, v1⟩⟩
    · refine ⟨D, _, rfl, .inl ⟨SqL.of hl, fun t nt => ?_⟩⟩
      exact q _ t xs (x1.trans (Same.x (same_upd nt))) (R1.same (same_upd nt)) upd_same hlen hB
def sp_Lsteps (K : PySem.W.Frag) : Sp := fun vs H Q _ => ∃ (r a : Addr) (ns : List Int) (n : Nat) (m : Int), vs = [.ref r, .int (n : Int), .int m] ∧ RowAt K H r a ns ∧ n ≤ 12 ∧ 0 < m ∧ m < 1073741824 ∧
  ∀ H' q xs, SameX r H H' → RowAt K H' r a ns → TI H' q xs → xs.length = n → (∀ x ∈ xs, 0 ≤ x ∧ x < m + 2) → Q (.ref q) H'
theorem ok_Lsteps (T : Txt K mg) : Ok P w K mg base 2 "_law_steps" ["_law_row_here", "_law_many", "_law_most"] (sp_Lsteps K) := by
  obtain ⟨f_Ltaken, fd_Ltaken, G_Ltaken, g_Ltaken, k_Ltaken, b_Ltaken⟩ := ok_Ltaken (P := P) (w := w) (base := base) T
  refine T.d_Lsteps.ok fun f fd F => ?_
  refine F.ok sc_Lsteps (fun vs H Q E h => ?_) (fun cdv A outer s H vs Q E hr h => ?_)
  · obtain ⟨r, a, ns, n, m, rfl, _⟩ := h
    rfl
  · obtain ⟨r, a, ns, n, m, rfl, R, hn, hm, hm2, q⟩ := h
    refine ⟨_, (pss_cons (ps_set (i := 3) sc_Lsteps.nd rfl (.inr rfl) (pe_call G_Ltaken (hr.mono (by decide)) (by rfl) g_Ltaken k_Ltaken b_Ltaken .nil pass0 (pa_cons (pv 0) (pa_cons (pv 2) pa_nil))))
      (pss_one (ps_ret (pe_callTy call_tuple_of (by rfl) T.z_tuple (by decide +kernel) (pa_cons (pe_lc (own := [("_law_at", 4)]) (g := gName 4) (tt := tYes) rfl sc_Lsteps.nd (pi_range1 (by rfl) T.z_range (pa_cons (pv 1) pa_nil)) (blkOk_by (own := [("_law_at", 4)]) (N := N_Lsteps) (sc := defScope s_Lsteps) (by decide +kernel)) (fun _ _ _ _ _ => pg_name (i := 4) sc_Lsteps.nd rfl (Or.inl rfl)) (fun _ _ _ _ _ => pts_nil) (fun _ _ _ _ _ => (pe_op op_add (pv 3) (pe_ifExp (pt_cmpR op_eq (pe_call G_Ltaken (hr.mono (by decide)) (by rfl) g_Ltaken k_Ltaken b_Ltaken .nil pass0 (pa_cons (pv 0) (pa_cons pe_int pa_nil))) pe_int (nomark _)) (pe_call G_Ltaken (hr.mono (by decide)) (by rfl) g_Ltaken k_Ltaken b_Ltaken .nil pass0 (pa_cons (pv 0) (pa_cons pe_int pa_nil))) pe_int)))) pa_nil))))), ?_⟩
    refine ⟨_, rfl, _, rfl, r, a, ns, m, rfl, R, hm, hm2, fun H0 b x0 R0 b0 b1 => ?_⟩
    refine ⟨_, rfl, _, rfl, by omega, by omega, fun D hD => ?_⟩
    rw [Int.toNat_natCast]
    refine lc_draw (fun x => 0 ≤ x ∧ x < m + 2) rfl (by omega) hD R0 (fun i H1 Rr hi x1 R1 k => ⟨rfl, ?_⟩) (fun H1 xs x1 R1 hl hlen hB => ?_)
    · refine ⟨_, rfl, _, rfl, r, a, ns, 3, rfl, R1, by omega, by omega, fun H2 v x2 R2 v0 v1 => ⟨rfl, _, rfl, ?_⟩⟩
      refine ite2 (fun hz => ?_) (fun hz => ?_)
      · refine ⟨_, rfl, r, a, ns, 3, rfl, R2, by omega, by omega, fun H3 u x3 R3 u0 u1 => ?_⟩
        exact ⟨_, _, rfl, rfl, k H3 _ (x2.trans x3) R3 ⟨by omega, by omega⟩⟩
      · exact ⟨_, _, rfl, rfl, k H2 _ x2 R2 ⟨by omega, by omega⟩⟩
    · refine ⟨D, _, rfl, .inl ⟨SqL.of hl, fun t nt => ?_⟩⟩
      exact q _ t xs (x0.trans (x1.trans (Same.x (same_upd nt)))) (R1.same (same_upd nt)) upd_same hlen hB
end
end Lp

/-! _law_problem, _law_row, _law_cost, _law_with. -/
namespace Lp
open PySem PySem.Spec PyProof.Rows L2 LpR
theorem choose_read {K : PySem.W.Frag} {tA : TT} {σ : L2.St} {H : Hp} {Q : VK} {r a : Addr} {ns : List Int} {n : Nat} {s u : Int} (ht : ∀ R : Bool → Hp → Prop, (∀ b, R b H) → tA σ H R) (h0 : σ[0]? = some (some (.ref r))) (h1 : σ[1]? = some (some (.int (n : Int)))) (R : RowAt K H r a ns)
    (hn : n ≤ 12) (hs : 0 < s ∧ s ≤ 900) (hu : 0 < u ∧ u ≤ 900) (q : ∀ H' t xs, SameX r H H' → RowAt K H' r a ns → TI H' t xs → xs.length = n → (∀ x ∈ xs, 0 ≤ x ∧ x ≤ 999) → Q (.ref t) H') :
    tIf tA (tCall (sp_Lsteps K) [] E0 (tCons (tVar 0) (tCons (tVar 1) (tCons (tC (.int s)) tNil)))) (tCall (sp_Lentries K) [] E0 (tCons (tVar 0) (tCons (tVar 1) (tCons (tC (.int u)) tNil)))) σ H Q := by
  refine ht _ fun b => ?_
  cases b with
  | true => exact iteT ⟨_, h0, _, h1, r, a, ns, n, s, rfl, R, hn, hs.1, by omega, fun H' t xs x1 R1 hT hl hb => q H' t xs x1 R1 hT hl fun x hx => ⟨(hb x hx).1, by have := (hb x hx).2; omega⟩⟩
  | false => exact iteF ⟨_, h0, _, h1, r, a, ns, n, u, rfl, R, hn, hu.1, by omega, fun H' t xs x1 R1 hT hl hb => q H' t xs x1 R1 hT hl fun x hx => ⟨(hb x hx).1, by have := (hb x hx).2; omega⟩⟩
theorem set_in {i : Nat} {v : V} {σ : L2.St} {H : Hp} {Q : L2.St → Hp → Prop} (h : Q (σ.set i (some v)) H) : gName i v σ H Q := h
theorem seq_asg {te : TE} {gg : TG} {u : TS} {D : Ends} {σ : L2.St} {H : Hp} (h : te σ H fun x H1 => gg x σ H1 (u D)) : tSeq (tAsg te gg) u D σ H := h
theorem cons_in {ta : TE} {tr : TA} {σ : L2.St} {H : Hp} {Q : List V → Hp → Prop} (h : ta σ H fun x H1 => tr σ H1 fun xs H2 => Q (x :: xs) H2) : tCons ta tr σ H Q := h
section
variable {P : Program} {w : World} {K : PySem.W.Frag} {mg : Str → Option Value} {base : Heap}
def sp_Lproblem (K : PySem.W.Frag) : Sp := fun vs H Q _ => ∃ (r a0 : Addr) (ns : List Int) (n : Nat), vs = [.ref r, .int (n : Int)] ∧ RowAt K H r a0 ns ∧ 1 ≤ n ∧ n ≤ 12 ∧
  ∀ H' p a b c e Z, SameX r H H' → RowAt K H' r a0 ns → PAt H' p Z a b c e → Wf Z n → (∀ x ∈ Z.s, x ≤ 999) → Q (.ref p) H'
theorem ok_Lproblem (T : Txt K mg) : Ok P w K mg base 3 "_law_problem" ["_law_row_here", "_law_many"] (sp_Lproblem K) := by
  obtain ⟨f_Ltaken, fd_Ltaken, G_Ltaken, g_Ltaken, k_Ltaken, b_Ltaken⟩ := ok_Ltaken (P := P) (w := w) (base := base) T
  obtain ⟨f_Lentries, fd_Lentries, G_Lentries, g_Lentries, k_Lentries, b_Lentries⟩ := ok_Lentries (P := P) (w := w) (base := base) T
  obtain ⟨f_Lpick, fd_Lpick, G_Lpick, g_Lpick, k_Lpick, b_Lpick⟩ := ok_Lpick (P := P) (w := w) (base := base) T
  obtain ⟨f_Lsteps, fd_Lsteps, G_Lsteps, g_Lsteps, k_Lsteps, b_Lsteps⟩ := ok_Lsteps (P := P) (w := w) (base := base) T
  refine T.d_Lproblem.ok fun f fd F => ?_
  refine F.ok sc_Lproblem (fun vs H Q E h => ?_) (fun cdv A outer s H vs Q E hr h => ?_)
  · obtain ⟨r, a0, ns, n, rfl, _⟩ := h
    rfl
  · obtain ⟨r, a0, ns, n, rfl, R, n1, n12, q⟩ := h
    refine ⟨_, (pss_cons (ps_set (i := 2) sc_Lproblem.nd rfl (.inl rfl) (pe_call G_Ltaken (hr.mono (by decide)) (by rfl) g_Ltaken k_Ltaken b_Ltaken .nil pass0 (pa_cons (pv 0) (pa_cons pe_int pa_nil))))
      (pss_cons (ps_if (pt_cmpR op_eq (pv 2) pe_int (nomark _))
        (pss_one (ps_ret (pe_callTy call_tuple_of (by rfl) T.z_tuple (by decide +kernel) (pa_cons (pe_lc (own := [("_law_at", 6)]) (g := gName 6) (tt := tYes) rfl sc_Lproblem.nd (pi_range1 (by rfl) T.z_range (pa_cons pe_int pa_nil)) (blkOk_by (own := [("_law_at", 6)]) (N := N_Lproblem) (sc := defScope s_Lproblem) (by decide +kernel)) (fun _ _ _ _ _ => pg_name (i := 6) sc_Lproblem.nd rfl (Or.inl rfl)) (fun _ _ _ _ _ => pts_nil) (fun _ _ _ _ _ => (pe_call G_Lentries (hr.mono (by decide)) (by rfl) g_Lentries k_Lentries b_Lentries .nil pass0 (pa_cons (pv 0) (pa_cons (pv 1) (pa_cons (pe_call G_Lpick (hr.mono (by decide)) (by rfl) g_Lpick k_Lpick b_Lpick .nil pass0 (pa_cons (pv 0) (pa_cons (pe_lst (pa_cons pe_int (pa_cons pe_int pa_nil))) pa_nil))) pa_nil)))))) pa_nil))))
        pss_nil)
      (pss_cons (ps_set (i := 3) sc_Lproblem.nd rfl (.inl rfl) (pe_call G_Lentries (hr.mono (by decide)) (by rfl) g_Lentries k_Lentries b_Lentries .nil pass0 (pa_cons (pv 0) (pa_cons (pv 1) (pa_cons (pe_call G_Lpick (hr.mono (by decide)) (by rfl) g_Lpick k_Lpick b_Lpick .nil pass0 (pa_cons (pv 0) (pa_cons (pe_lst (pa_cons pe_int (pa_cons pe_int (pa_cons pe_int pa_nil)))) pa_nil))) pa_nil)))))
      (pss_cons (ps_set (i := 4) sc_Lproblem.nd rfl (.inl rfl) (pe_ifExp (pt_cmpR op_lt (pv 2) pe_int (nomark _)) (pe_call G_Lsteps (hr.mono (by decide)) (by rfl) g_Lsteps k_Lsteps b_Lsteps .nil pass0 (pa_cons (pv 0) (pa_cons (pv 1) (pa_cons pe_int pa_nil)))) (pe_call G_Lentries (hr.mono (by decide)) (by rfl) g_Lentries k_Lentries b_Lentries .nil pass0 (pa_cons (pv 0) (pa_cons (pv 1) (pa_cons pe_int pa_nil))))))
      (pss_cons (ps_set (i := 5) sc_Lproblem.nd rfl (.inl rfl) (pe_ifExp (pt_cmpR op_lt (pv 2) pe_int (nomark _)) (pe_call G_Lsteps (hr.mono (by decide)) (by rfl) g_Lsteps k_Lsteps b_Lsteps .nil pass0 (pa_cons (pv 0) (pa_cons (pv 1) (pa_cons pe_int pa_nil)))) (pe_call G_Lentries (hr.mono (by decide)) (by rfl) g_Lentries k_Lentries b_Lentries .nil pass0 (pa_cons (pv 0) (pa_cons (pv 1) (pa_cons pe_int pa_nil))))))
      (pss_one (ps_ret (pe_tup (pa_cons (pv 3) (pa_cons (pv 4) (pa_cons (pv 5) (pa_cons (pe_ifExp (pt_cmpR op_eq (pv 2) pe_int (nomark _)) (pe_call G_Lsteps (hr.mono (by decide)) (by rfl) g_Lsteps k_Lsteps b_Lsteps .nil pass0 (pa_cons (pv 0) (pa_cons (pv 1) (pa_cons pe_int pa_nil)))) (pe_call G_Lentries (hr.mono (by decide)) (by rfl) g_Lentries k_Lentries b_Lentries .nil pass0 (pa_cons (pv 0) (pa_cons (pv 1) (pa_cons pe_int pa_nil))))) pa_nil)))))))))))), ?_⟩
    refine ⟨_, rfl, r, a0, ns, 5, rfl, R, by omega, by omega, fun H1 v x1 R1 v0 v1 => ?_⟩
    refine ⟨_, rfl, rfl, _, rfl, ?_⟩
    refine ite2 (fun hw => ?_) (fun hw => ?_)
    · refine ⟨_, rfl, by omega, by omega, fun D hD => ?_⟩
      refine lc_drawT (fun xs => xs.length = n ∧ ∀ x ∈ xs, 0 ≤ x ∧ x ≤ 999) rfl (by show 4 ≤ 1000; omega) hD R1 (fun i H2 Rr hi x2 R2 k => ⟨rfl, ?_⟩) (fun H2 qs x2 R2 hl hlen hB => ?_)
      · refine ⟨_, rfl, _, rfl, _, rfl, len1000 (by show 2 ≤ 1000; omega), fun t nt => ?_⟩
        obtain ⟨ys, hr2⟩ := R2.lst
        refine ⟨r, a0, t, ns, _, rfl, R2.same (same_upd nt), upd_same, (ne_of_none hr2 nt).symm, by show 0 < 2; omega, by show 2 ≤ 1000; omega, fun H3 x x3 R3 hx => ?_⟩
        obtain ⟨m, rfl, hm⟩ : ∃ m : Int, x = .int m ∧ (m = 2 ∨ m = 1000) := by
          rcases List.mem_cons.mp hx with hx | hx
          · exact ⟨2, hx, .inl rfl⟩
          · exact ⟨1000, List.mem_singleton.mp hx, .inr rfl⟩
        exact ⟨r, a0, ns, n, m, rfl, R3, n12, by omega, by omega, fun H4 q4 xs x4 R4 h4 hl4 hb4 => k H4 q4 xs ((Same.x (same_upd nt)).trans (x3.trans x4)) R4 h4 ⟨hl4, fun x hx => ⟨(hb4 x hx).1, by have := (hb4 x hx).2; omega⟩⟩⟩
      · obtain ⟨q0, q1, q2, q3, rfl⟩ : ∃ q0 q1 q2 q3, qs = [q0, q1, q2, q3] := by
          match qs, hlen with
          | [q0, q1, q2, q3], _ => exact ⟨q0, q1, q2, q3, rfl⟩
        obtain ⟨m0, t0, l0, b0⟩ := hB q0 (by simp)
        obtain ⟨m1, t1, l1, b1⟩ := hB q1 (by simp)
        obtain ⟨m2, t2, l2, b2⟩ := hB q2 (by simp)
        obtain ⟨m3, t3, l3, b3⟩ := hB q3 (by simp)
        refine ⟨D, _, rfl, .inl ⟨SqL.of hl, fun p np => ?_⟩⟩
        have s3 := same_upd (H := H2) (p := p) (o := .tup ([q0, q1, q2, q3].map V.ref)) np
        exact q _ p q0 q1 q2 q3 ⟨m0, m1, m2, m3⟩ (x1.trans (x2.trans (Same.x s3))) (R2.same s3) ⟨upd_same, t0.same s3, t1.same s3, t2.same s3, t3.same s3⟩ ⟨l0, l1, l2, l3, n1, n12, b0, fun x hx => (b1 x hx).1, b2, b3⟩ fun x hx => (b1 x hx).2
    · refine ⟨_, rfl, _, rfl, _, rfl, len1000 (by show 3 ≤ 1000; omega), fun t nt => ?_⟩
      obtain ⟨ys, hr1⟩ := R1.lst
      refine ⟨r, a0, t, ns, _, rfl, R1.same (same_upd nt), upd_same, (ne_of_none hr1 nt).symm, by show 0 < 3; omega, by show 3 ≤ 1000; omega, fun H3 x x3 R3 hx => ?_⟩
      obtain ⟨m, rfl, hm⟩ : ∃ m : Int, x = .int m ∧ (m = 3 ∨ m = 10 ∨ m = 30) := by
        rcases List.mem_cons.mp hx with hx | hx
        · exact ⟨3, hx, .inl rfl⟩
        · rcases List.mem_cons.mp hx with hx | hx
          · exact ⟨10, hx, .inr (.inl rfl)⟩
          · exact ⟨30, List.mem_singleton.mp hx, .inr (.inr rfl)⟩
      refine ⟨r, a0, ns, n, m, rfl, R3, n12, by omega, by omega, fun H4 q4 d x4 R4 t4 l4 b4 => ?_⟩
      refine set_in ?_
      dsimp only
      refine seq_asg ?_
      refine choose_read (fun Rr hR => ⟨_, rfl, _, _, rfl, rfl, _, rfl, hR _⟩) rfl rfl R4 n12 ⟨by omega, by omega⟩ ⟨by omega, by omega⟩ fun H5 q5 s x5 R5 t5 l5 b5 => ?_
      refine set_in ?_
      try dsimp only
      refine seq_asg ?_
      refine choose_read (fun Rr hR => ⟨_, rfl, _, _, rfl, rfl, _, rfl, hR _⟩) rfl rfl R5 n12 ⟨by omega, by omega⟩ ⟨by omega, by omega⟩ fun H6 q6 u x6 R6 t6 l6 b6 => ?_
      refine ⟨_, rfl, _, rfl, _, rfl, ?_⟩
      refine cons_in ?_
      refine choose_read (fun Rr hR => ⟨_, rfl, rfl, _, rfl, hR _⟩) rfl rfl R6 n12 ⟨by omega, by omega⟩ ⟨by omega, by omega⟩ fun H7 q7 hh x7 R7 t7 l7 b7 => ?_
      refine ⟨len1000 (by show 4 ≤ 1000; omega), fun p np => ?_⟩
      have s8 := same_upd (H := H7) (p := p) (o := .tup [.ref q4, .ref q5, .ref q6, .ref q7]) np
      have t4' := ((t4.keepR R4 x5).keepR R5 x6).keepR R6 x7
      have t5' := (t5.keepR R5 x6).keepR R6 x7
      have t6' := t6.keepR R6 x7
      exact q _ p q4 q5 q6 q7 ⟨d, s, u, hh⟩ (x1.trans ((Same.x (same_upd nt)).trans (x3.trans (x4.trans (x5.trans (x6.trans (x7.trans (Same.x s8)))))))) (R7.same s8) ⟨upd_same, t4'.same s8, t5'.same s8, t6'.same s8, t7.same s8⟩
        ⟨l4, l5, l6, l7, n1, n12, fun x hx => ⟨(b4 x hx).1, by have := (b4 x hx).2; omega⟩, fun x hx => (b5 x hx).1, b6, b7⟩ fun x hx => (b5 x hx).2
theorem ok_Lrow (T : Txt K mg) : Ok P w K mg base 1 "_law_row" ["_law_demands", "_law_plan"] sp_stockrow := by
  refine T.d_Lrow.ok fun f fd F => ?_
  refine F.ok sc_Lrow (fun vs H Q E h => ?_) (fun cdv A outer s H vs Q E hr h => ?_)
  · obtain ⟨a, b, ds, xs, rfl, _⟩ := h
    rfl
  · obtain ⟨a, b, ds, xs, rfl, ha, hb, hl, h12, q⟩ := h
    refine ⟨_, (pss_cons (ps_par (i := 2) (j := 3) rfl sc_Lrow.nd rfl rfl (by decide) rfl rfl (pa_cons (pe_lst pa_nil) (pa_cons pe_int pa_nil)) (by rfl))
      (pss_cons (ps_for PassesOwn.never rfl (pi_range1 (by rfl) T.z_range (pa_cons (pe_callB call_len_seq (by rfl) T.z_len PySem.boot_len (pa_cons (pv 0) pa_nil)) pa_nil)) (pg_name (i := 4) sc_Lrow.nd rfl (.inl rfl))
        (pss_cons (ps_set (i := 3) sc_Lrow.nd rfl (.inl rfl) (pe_op op_sub (pe_op op_add (pv 3) (pe_ix ix_tup (pv 1) (pv 4) (fun _ _ => rfl))) (pe_ix ix_tup (pv 0) (pv 4) (fun _ _ => rfl))))
          (pss_one (ps_expr (pe_bm PySem.F.plainAttrs_list PySem.F.slot_list_append PySem.F.type_list_append mt_append (pv 2) (pa_cons (pv 3) pa_nil))))))
      (pss_one (ps_ret (pv 2))))), ?_⟩
    refine ⟨Nat.zero_le _, fun o no => ?_⟩
    refine ⟨_, _, rfl, ?_⟩
    have s0 : Same H (upd H o (.lst [])) := same_upd no
    refine ⟨_, rfl, a, _, rfl, .inr (SqT.of (s0 _ _ ha)), _, rfl, ?_⟩
    rw [List.length_map]
    refine ⟨by omega, by omega, ?_⟩
    rw [Int.toNat_natCast]
    refine for_rangeN (lo := 0) rfl (fun i σ H1 => ∃ z y4, σ = [some (.ref a), some (.ref b), some (.ref o), some (.int z), y4] ∧ z = (xs.take i).sum - (ds.take i).sum ∧ i ≤ ds.length ∧ Same H H1 ∧ H1 o = some (.lst (((List.range i).map (stk ds xs)).map V.int)))
      ⟨0, none, rfl, rfl, Nat.zero_le _, s0, upd_same⟩ (fun i σ H1 hi2 ⟨z, y4, e, ez, hi, s1, ho⟩ => ?_) (fun σ H1 ⟨z, y4, e, ez, hi, s1, ho⟩ => ?_)
    · subst e
      have hi1 : i < xs.length := by omega
      have ha1 := ha.same s1
      have hb1 := hb.same s1
      rw [Nat.zero_add]
      refine ⟨_, rfl, _, rfl, _, rfl, b, _, _, _, rfl, rfl, SqT.of hb1, g_at hi1, _, _, rfl, rfl, _, rfl, _, rfl, a, _, _, _, rfl, rfl, SqT.of ha1, g_at hi2, _, _, rfl, rfl, ?_⟩
      have ex : (xs.take (i + 1)).sum = (xs.take i).sum + g xs i := sum_take (g_get hi1)
      have ed : (ds.take (i + 1)).sum = (ds.take i).sum + g ds i := sum_take (g_get hi2)
      have e1 : z + g xs i - g ds i = (xs.take (i + 1)).sum - (ds.take (i + 1)).sum := by omega
      refine ⟨_, rfl, .inl ⟨rfl, _, SqL.of ho⟩, _, rfl, o, _, _, rfl, rfl, ho, ?_, ?_⟩
      · rw [List.length_map, List.length_map, List.length_range]
        exact small1000 (by omega)
      · refine ⟨_, _, rfl, e1, hi2, fun b' z hz => ?_, ?_⟩
        · rw [upd_ne (ne_of_none hz no)]
          exact s1 _ _ hz
        · rw [upd_same, List.range_succ, List.map_append, List.map_append]
          exact congrArg (fun z => some (HO.lst (_ ++ [V.int z]))) e1
    · subst e
      exact ⟨_, rfl, q H1 o s1 no ho⟩
theorem ok_Lcost (T : Txt K mg) : Ok P w K mg base 2 "_law_cost" ["_law_problem_here", "_law_plan"] sp_costof := by
  obtain ⟨f_Lrow, fd_Lrow, G_Lrow, g_Lrow, k_Lrow, b_Lrow⟩ := ok_Lrow (P := P) (w := w) (base := base) T
  refine T.d_Lcost.ok fun f fd F => ?_
  refine F.ok sc_Lcost (fun vs H Q E h => ?_) (fun cdv A outer s H vs Q E hr h => ?_)
  · obtain ⟨p, q, a, b, c, e, Z, n, xs, rfl, _⟩ := h
    rfl
  · obtain ⟨p, q, a, b, c, e, Z, n, xs, rfl, hp, wf, hx, hl, k⟩ := h
    have n12 := wf.n12
    refine ⟨_, (pss_cons (ps_par (i := 2) (j := 3) rfl sc_Lcost.nd rfl rfl (by decide) rfl rfl (pa_cons (pe_call G_Lrow (hr.mono (by decide)) (by rfl) g_Lrow k_Lrow b_Lrow .nil pass0 (pa_cons (pe_ix ix_tup (pv 0) pe_int (fun _ _ => rfl)) (pa_cons (pv 1) pa_nil))) (pa_cons pe_int pa_nil)) (by rfl))
      (pss_cons (ps_for PassesOwn.never rfl (pi_range1 (by rfl) T.z_range (pa_cons (pe_callB call_len_seq (by rfl) T.z_len PySem.boot_len (pa_cons (pv 1) pa_nil)) pa_nil)) (pg_name (i := 4) sc_Lcost.nd rfl (.inl rfl))
        (pss_one (ps_set (i := 3) sc_Lcost.nd rfl (.inl rfl) (pe_op op_add (pe_op op_add (pe_op op_add (pv 3) (pe_ifExp (pt_cmpR op_gt (pe_ix ix_tup (pv 1) (pv 4) (fun _ _ => rfl)) pe_int (nomark _)) (pe_ix ix_tup (pe_ix ix_tup (pv 0) pe_int (fun _ _ => rfl)) (pv 4) (fun _ _ => rfl)) pe_int)) (pe_op op_mul (pe_ix ix_tup (pe_ix ix_tup (pv 0) pe_int (fun _ _ => rfl)) (pv 4) (fun _ _ => rfl)) (pe_ix ix_tup (pv 1) (pv 4) (fun _ _ => rfl)))) (pe_op op_mul (pe_ix ix_tup (pe_ix ix_tup (pv 0) pe_int (fun _ _ => rfl)) (pv 4) (fun _ _ => rfl)) (pe_ix ix_list (pv 2) (pv 4) (fun _ _ => rfl)))))))
      (pss_one (ps_ret (pv 3))))), ?_⟩
    refine ⟨_, rfl, p, _, 0, _, rfl, rfl, SqT.of hp.top, at0, _, rfl, a, q, Z.d, xs, rfl, hp.d, hx, by rw [wf.ld, hl], by rw [wf.ld]; exact n12, fun H1 o s1 no ho => ?_⟩
    refine ⟨_, _, rfl, ?_⟩
    refine ⟨_, rfl, q, _, rfl, .inr (SqT.of (hx.same s1)), _, rfl, ?_⟩
    rw [List.length_map]
    refine ⟨by omega, by omega, ?_⟩
    rw [Int.toNat_natCast]
    refine for_rangeN (lo := 0) rfl (fun i σ H2 => ∃ z y4, σ = [some (.ref p), some (.ref q), some (.ref o), some (.int z), y4] ∧ z = cpre Z xs i ∧ Same H1 H2)
      ⟨0, none, rfl, rfl, Same.refl _⟩ (fun i σ H2 hi ⟨z, y4, e', ez, s2⟩ => ?_) (fun σ H2 ⟨z, y4, e', ez, s2⟩ => ?_)
    · subst e'
      rw [hl] at hi
      rw [Nat.zero_add]
      have s := s1.trans s2
      have hp' := hp.same s
      have hx2 := hx.same s
      have ax : atI (xs.map V.int) (i : Int) = some (.int (g xs i)) := g_at (by rw [hl]; exact hi)
      have al : atI (((List.range Z.d.length).map (stk Z.d xs)).map V.int) (i : Int) = some (.int (stk Z.d xs i)) := by
        refine atI_nat ?_
        rw [List.getElem?_map, List.getElem?_map, List.getElem?_range (by rw [wf.ld]; exact hi)]
        rfl
      have bh := wf.h0 hi
      have bu := wf.u0 hi
      have tailr : ∀ (y : Int), y = (if 0 < g xs i then g Z.s i else 0) → z + y + g Z.u i * g xs i + g Z.h i * stk Z.d xs i = cpre Z xs (i + 1) := by
        intro y hy
        show _ = cpre Z xs i + (g Z.h i * stk Z.d xs i + g Z.u i * g xs i) + (if 0 < g xs i then g Z.s i else 0)
        rw [← hy, ← ez]
        generalize g Z.u i * g xs i = A
        generalize g Z.h i * stk Z.d xs i = B
        omega
      refine ⟨_, rfl, _, rfl, _, rfl, q, _, _, _, rfl, rfl, SqT.of hx2, ax, _, _, rfl, rfl, _, rfl, ?_⟩
      refine ite2 (fun hg => ?_) (fun hg => ?_)
      · refine ⟨_, rfl, p, _, 1, _, rfl, rfl, SqT.of hp'.top, at1, _, rfl, _, _, _, _, rfl, rfl, SqT.of hp'.s, g_at (by rw [wf.ls]; exact hi), _, _, rfl, rfl, ?_⟩
        refine ⟨_, rfl, p, _, 2, _, rfl, rfl, SqT.of hp'.top, at2, _, rfl, _, _, _, _, rfl, rfl, SqT.of hp'.u, g_at (by rw [wf.lu]; exact hi), _, rfl, _, rfl, q, _, _, _, rfl, rfl, SqT.of hx2, ax, _, _, rfl, rfl, mulL bu.1 (by omega), _, _, rfl, rfl, ?_⟩
        refine ⟨_, rfl, p, _, 3, _, rfl, rfl, SqT.of hp'.top, at3, _, rfl, _, _, _, _, rfl, rfl, SqT.of hp'.h, g_at (by rw [wf.lh]; exact hi), _, rfl, _, rfl, o, _, _, _, rfl, rfl, SqL.of (s2 _ _ ho), al, _, _, rfl, rfl, mulL bh.1 (by omega), _, _, rfl, rfl, ?_⟩
        exact ⟨_, _, rfl, tailr _ (by rw [if_pos (of_decide_eq_true hg)]), s2⟩
      · refine ⟨_, _, rfl, rfl, ?_⟩
        refine ⟨_, rfl, p, _, 2, _, rfl, rfl, SqT.of hp'.top, at2, _, rfl, _, _, _, _, rfl, rfl, SqT.of hp'.u, g_at (by rw [wf.lu]; exact hi), _, rfl, _, rfl, q, _, _, _, rfl, rfl, SqT.of hx2, ax, _, _, rfl, rfl, mulL bu.1 (by omega), _, _, rfl, rfl, ?_⟩
        refine ⟨_, rfl, p, _, 3, _, rfl, rfl, SqT.of hp'.top, at3, _, rfl, _, _, _, _, rfl, rfl, SqT.of hp'.h, g_at (by rw [wf.lh]; exact hi), _, rfl, _, rfl, o, _, _, _, rfl, rfl, SqL.of (s2 _ _ ho), al, _, _, rfl, rfl, mulL bh.1 (by omega), _, _, rfl, rfl, ?_⟩
        exact ⟨_, _, rfl, tailr _ (by rw [if_neg (fun z => hg (decide_eq_true z))]), s2⟩
    · subst e'
      rw [hl] at ez
      refine ⟨_, rfl, ?_⟩
      rw [ez]
      exact k H2 (s1.trans s2)
def sp_Lwith : Sp := fun vs H Q _ => ∃ (p a b c e : Addr) (Z : Pb) (n k : Nat) (S : Int), vs = [.ref p, .int (k : Int), .int S] ∧ PAt H p Z a b c e ∧ Wf Z n ∧ k < n ∧ ∀ H' p' b', Same H H' → PAt H' p' (setS Z k S) a b' c e → Q (.ref p') H'
theorem ok_Lwith (T : Txt K mg) : Ok P w K mg base 1 "_law_with" ["_law_problem_here", "_law_period", "_law_setup"] sp_Lwith := by
  refine T.d_Lwith.ok fun f fd F => ?_
  refine F.ok sc_Lwith (fun vs H Q E h => ?_) (fun cdv A outer s H vs Q E hr h => ?_)
  · obtain ⟨p, a, b, c, e, Z, n, k, S, rfl, _⟩ := h
    rfl
  · obtain ⟨p, a, b, c, e, Z, n, k, S, rfl, hp, wf, hk, q⟩ := h
    have n12 := wf.n12
    refine ⟨_, (pss_one (ps_ret (pe_op op_catA (pe_tup (pa_cons (pe_ix ix_tup (pv 0) pe_int (fun _ _ => rfl)) (pa_cons (pe_op op_catA (pe_op op_catA (pe_slice sl_tupA (pe_ix ix_tup (pv 0) pe_int (fun _ _ => rfl)) po_none (po_some (pv 1))) (pe_tup (pa_cons (pv 2) pa_nil))) (pe_slice sl_tupA (pe_ix ix_tup (pv 0) pe_int (fun _ _ => rfl)) (po_some (pe_op op_add (pv 1) pe_int)) po_none)) pa_nil))) (pe_slice sl_tupA (pv 0) (po_some pe_int) po_none)))), ?_⟩
    refine ⟨_, rfl, p, _, 0, _, rfl, rfl, SqT.of hp.top, at0, ?_⟩
    refine ⟨_, rfl, p, _, 1, _, rfl, rfl, SqT.of hp.top, at1, _, rfl, _, rfl, ?_⟩
    refine sl_read hp.s (cut_to _ _ (by rw [wf.ls]; omega)) fun t1 H1 s1 ht1 => ?_
    refine ⟨_, rfl, len1000 (by show 1 ≤ 1000; omega), fun t2 nt2 => ?_⟩
    have s2 := same_upd (H := H1) (p := t2) (o := .tup [.int S]) nt2
    refine cat_read (s2 _ _ ht1) upd_same (by rw [List.length_map, List.length_take, wf.ls]; show min k n + 1 ≤ 1000; omega) fun t3 H3 s3 ht3 => ?_
    have hp3 := hp.same (s1.trans (s2.trans s3))
    refine ⟨_, rfl, p, _, 1, _, rfl, rfl, SqT.of hp3.top, at1, _, rfl, _, _, rfl, rfl, _, rfl, ?_⟩
    refine no_part (sl_read hp3.s (cut_from _ (k + 1) (by rw [wf.ls]; omega)) fun t4 H4 s4 ht4 => ?_)
    refine cat_read (s4 _ _ ht3) ht4 (by rw [List.length_append, List.length_map, List.length_map, List.length_take, List.length_drop, wf.ls]; show min k n + 1 + (n - (k + 1)) ≤ 1000; omega) fun t5 H5 s5 ht5 => ?_
    have hp5 := hp3.same (s4.trans s5)
    refine ⟨len1000 (by show 2 ≤ 1000; omega), fun t6 nt6 => ?_⟩
    have s6 := same_upd (H := H5) (p := t6) (o := .tup [.ref a, .ref t5]) nt6
    have hp6 := hp5.same s6
    refine ⟨_, rfl, _, rfl, ?_⟩
    refine no_part (sl_read hp6.top (ys := [.ref c, .ref e]) rfl fun t7 H7 s7 ht7 => ?_)
    refine cat_read (s7 _ _ upd_same) ht7 (by show 4 ≤ 1000; omega) fun t8 H8 s8 ht8 => ?_
    have hp8 := hp6.same (s7.trans s8)
    refine q H8 t8 t5 (s1.trans (s2.trans (s3.trans (s4.trans (s5.trans (s6.trans (s7.trans s8))))))) ⟨ht8, hp8.d, ?_, hp8.u, hp8.h⟩
    have := (s6.trans (s7.trans s8)) _ _ ht5
    rw [show (V.int S :: []) = ([S] : List Int).map V.int from rfl, ← List.map_append, ← List.map_append] at this
    exact this
end
end Lp

/-! _law_sets, _law_filled. -/
namespace Lp
open PySem PySem.Spec PyProof.Rows L2 LpR
def ci (T : List Nat) : List Int := T.map fun i : Nat => (i : Int)
def setsM : Nat → List (List Nat)
  | 0 => [[]]
  | i + 1 => setsM i ++ (setsM i).map (fun T => T ++ [i])
theorem setsM_len : ∀ n, (setsM n).length = 2 ^ n
  | 0 => rfl
  | n + 1 => by
    show (setsM n ++ (setsM n).map _).length = 2 ^ (n + 1)
    rw [List.length_append, List.length_map, setsM_len n, Nat.pow_succ]
    omega
structure SetsAt (H : Hp) (As : List Addr) (Ts : List (List Nat)) : Prop where
  len : As.length = Ts.length
  el : ∀ (j : Nat) (A : Addr) (T : List Nat), As[j]? = some A → Ts[j]? = some T → TI H A (ci T)
theorem SetsAt.same {H H' : Hp} {As : List Addr} {Ts : List (List Nat)} (h : SetsAt H As Ts) (s : Same H H') : SetsAt H' As Ts := ⟨h.len, fun j A T a b => s _ _ (h.el j A T a b)⟩
theorem SetsAt.append {H : Hp} {As Bs : List Addr} {Ts Us : List (List Nat)} (h1 : SetsAt H As Ts) (h2 : SetsAt H Bs Us) : SetsAt H (As ++ Bs) (Ts ++ Us) := by
  refine ⟨by rw [List.length_append, List.length_append, h1.len, h2.len], fun j A T a b => ?_⟩
  by_cases hj : j < As.length
  · rw [List.getElem?_append_left hj] at a
    rw [List.getElem?_append_left (by rw [← h1.len]; exact hj)] at b
    exact h1.el j A T a b
  · rw [List.getElem?_append_right (by omega)] at a
    rw [List.getElem?_append_right (by rw [← h1.len]; omega), ← h1.len] at b
    exact h2.el _ A T a b
/-- over a list of tuples: each gives a new tuple -/
theorem lc_list_new {K : PySem.W.Frag} {o : Addr} {As : List Addr} {Ts : List (List Nat)} {te : TE} {j : Nat} {vs : List Nat} {σ : L2.St} {H1 : Hp} {D : Addr} {Qd : Hp → Prop} (F : List Nat → List Nat) (hx : H1 o = some (.lst (As.map V.ref))) (hS : SetsAt H1 As Ts) (hn : As.length ≤ 1000) (hD : H1 D = none)
    (hs : ∀ (i : Nat) (a : Addr) (T : List Nat) (H : Hp) (R : VK), As[i]? = some a → Ts[i]? = some T → Same H1 H → TI H a (ci T) → (∀ q H4, Same H H4 → TI H4 q (ci (F T)) → R (.ref q) H4) → gName j (.ref a) (wipe σ vs) H fun σ2 H2 => wipe σ2 vs = wipe σ vs ∧ te σ2 H2 R)
    (hd : ∀ (H : Hp) (bs : List Addr), Same H1 H → H D = some (.lst (bs.map V.ref)) → SetsAt H bs (Ts.map F) → Qd H) :
    LcEnd (Itl K o) (gName j) tYes te vs σ H1 D Qd := by
  refine lc_list (xs := As.map V.ref) (fun i H => i ≤ As.length ∧ Same H1 H ∧ ∃ bs : List Addr, H D = some (.lst (bs.map V.ref)) ∧ bs.length = i ∧ SetsAt H bs ((Ts.take i).map F))
    ⟨Nat.zero_le _, same_upd hD, [], upd_same, rfl, rfl, fun i q l h => by simp at h⟩ (fun i H _ ⟨_, sm, _⟩ => SqL.of (sm _ _ hx)) (fun i x H hi ⟨hle, sm, bs, hb, hbl, hall⟩ => ?_) fun H ⟨_, sm, bs, hb, hbl, hall⟩ => ?_
  · rw [List.getElem?_map] at hi
    cases ea : As[i]? with
    | none =>
      rw [ea] at hi
      cases hi
    | some a =>
      rw [ea] at hi
      cases hi
      have hlt : i < As.length := (List.getElem?_eq_some_iff.mp ea).1
      have hltT : i < Ts.length := by rw [← hS.len]; exact hlt
      have eT : Ts[i]? = some Ts[i] := List.getElem?_eq_getElem hltT
      have hl := hS.el i a _ ea eT
      have key := hs i a _ H (fun y H4 => ∃ acc, H4 D = some (.lst acc) ∧ acc.length < sizeLine ∧ i + 1 ≤ As.length ∧ Same H1 (upd H4 D (.lst (acc ++ [y]))) ∧ ∃ bs : List Addr, (upd H4 D (.lst (acc ++ [y]))) D = some (.lst (bs.map V.ref)) ∧ bs.length = i + 1 ∧ SetsAt (upd H4 D (.lst (acc ++ [y]))) bs ((Ts.take (i + 1)).map F)) ea eT sm (sm _ _ hl) (fun q H4 s4 hq => ?_)
      · exact key
      · refine ⟨_, s4 _ _ hb, by rw [List.length_map]; exact small1000 (by omega), hlt, fun b o' ho => ?_, bs ++ [q], ?_, by rw [List.length_append, hbl]; rfl, ?_⟩
        · rw [upd_ne (ne_of_none ho hD)]
          exact s4 _ _ (sm _ _ ho)
        · rw [upd_same, List.map_append]
          rfl
        · have keepT : ∀ {q : Addr} {l : List Int} {z : HO}, TI H4 q l → TI (upd H4 D z) q l := fun {q l z} h => by
            show (upd H4 D z) q = _
            rw [upd_ne (ne_of h (s4 _ _ hb) (by intro z; cases z))]
            exact h
          rw [List.take_add_one, eT, List.map_append]
          refine SetsAt.append ⟨hall.len, fun j A T a b => keepT (s4 _ _ (hall.el j A T a b))⟩ ⟨rfl, fun j A T a b => ?_⟩
          match j, a, b with
          | 0, a, b =>
            cases a
            cases b
            exact keepT hq
          | j + 1, a, b => cases a
  · refine hd H bs sm hb ?_
    have e : (As.map V.ref).length = Ts.length := by rw [List.length_map, hS.len]
    rw [e, List.take_length] at hall
    exact hall
structure Asc (T : List Nat) (n : Nat) : Prop where
  pw : T.Pairwise (· < ·)
  lt : ∀ t ∈ T, t < n
theorem asc_len : ∀ (T : List Nat) (a n : Nat), T.Pairwise (· < ·) → (∀ t ∈ T, a ≤ t ∧ t < n) → T.length ≤ n - a
  | [], _, _, _, _ => Nat.zero_le _
  | x :: r, a, n, pw, h => by
    have hx := h x (List.mem_cons_self ..)
    have ih := asc_len r (x + 1) n (List.pairwise_cons.mp pw).2 fun t ht => ⟨(List.pairwise_cons.mp pw).1 t ht, (h t (List.mem_cons_of_mem _ ht)).2⟩
    rw [List.length_cons]
    omega
theorem Asc.len {T : List Nat} {n : Nat} (A : Asc T n) : T.length ≤ n := asc_len T 0 n A.pw fun t ht => ⟨Nat.zero_le _, A.lt t ht⟩
theorem setsM_asc : ∀ (n : Nat) (T : List Nat), T ∈ setsM n → Asc T n
  | 0, T, h => by
    rw [show T = [] from List.mem_singleton.mp h]
    exact ⟨List.Pairwise.nil, fun t h => by cases h⟩
  | n + 1, T, h => by
    rcases List.mem_append.mp (show T ∈ setsM n ++ (setsM n).map (fun T => T ++ [n]) from h) with h | h
    · have A := setsM_asc n T h
      exact ⟨A.pw, fun t ht => Nat.lt_succ_of_lt (A.lt t ht)⟩
    · obtain ⟨U, hU, rfl⟩ := List.mem_map.mp h
      have A := setsM_asc n U hU
      refine ⟨List.pairwise_append.mpr ⟨A.pw, List.pairwise_singleton _ _, fun a ha b hb => ?_⟩, fun t ht => ?_⟩
      · rw [List.mem_singleton.mp hb]
        exact A.lt a ha
      · rcases List.mem_append.mp ht with ht | ht
        · exact Nat.lt_succ_of_lt (A.lt t ht)
        · rw [List.mem_singleton.mp ht]
          exact Nat.lt_succ_self n
/-- the interval plan of some starts -/
def fil (d : List Int) (n : Nat) : List Nat → Nat → Int
  | [], _ => 0
  | a :: r, i => if i = a then seg d a (r.headD n) else fil d n r i
structure FilOk (d : List Int) (n : Nat) (T : List Nat) (xs : List Int) : Prop where
  len : xs.length = n
  el : ∀ i, i < n → g xs i = fil d n T i
theorem fil_not {d : List Int} {n m : Nat} : ∀ {T : List Nat}, m ∉ T → fil d n T m = 0
  | [], _ => rfl
  | a :: r, h => by
    have h1 : m ≠ a := fun e => h (e ▸ List.mem_cons_self ..)
    have h2 : m ∉ r := fun e => h (List.mem_cons_of_mem _ e)
    show (if m = a then _ else fil d n r m) = 0
    rw [if_neg h1]
    exact fil_not h2
theorem fil_at {d : List Int} {n : Nat} : ∀ {T : List Nat} {i t : Nat}, T.Pairwise (· < ·) → T[i]? = some t → fil d n T t = seg d t (T.getD (i + 1) n)
  | [], i, t, _, h => by cases h
  | a :: r, 0, t, pw, h => by
    cases h
    show (if a = a then seg d a (r.headD n) else _) = _
    rw [if_pos rfl]
    cases r <;> rfl
  | a :: r, i + 1, t, pw, h => by
    have h' : r[i]? = some t := h
    have hlt : a < t := (List.pairwise_cons.mp pw).1 t (List.mem_of_getElem? h')
    show (if t = a then _ else fil d n r t) = seg d t (r.getD (i + 1) n)
    rw [if_neg (by omega)]
    exact fil_at (List.pairwise_cons.mp pw).2 h'
theorem seg_zero (l : List Int) (f : Nat) : (l.take f).sum = seg l 0 f := by
  unfold seg
  rw [List.drop_zero, Nat.sub_zero]
theorem rep_flat : ∀ n : Nat, (List.replicate n [V.int 0]).flatten = (List.replicate n (0 : Int)).map V.int
  | 0 => rfl
  | n + 1 => by
    rw [List.replicate_succ, List.flatten_cons, rep_flat n, List.replicate_succ]
    rfl
theorem ixN_nat {n t : Nat} (h : t < n) : ixN n (t : Int) = some t := by
  unfold ixN
  rw [if_pos (by omega), if_pos (by omega)]
  simp
theorem g_set {l : List Int} {t m : Nat} {v : Int} (ht : t < l.length) : g (l.set t v) m = if m = t then v else g l m := by
  unfold g
  rw [List.getD_eq_getElem?_getD, List.getD_eq_getElem?_getD, List.getElem?_set]
  by_cases h : t = m
  · subst h
    rw [if_pos rfl, if_pos ht, if_pos rfl]
    rfl
  · rw [if_neg h, if_neg (fun e => h e.symm)]
theorem ci_at {T : List Nat} {i t : Nat} (h : T[i]? = some t) : atI ((ci T).map V.int) (i : Int) = some (.int (t : Int)) := by
  refine atI_nat ?_
  unfold ci
  rw [List.getElem?_map, List.getElem?_map, h]
  rfl
theorem first_read {K : PySem.W.Frag} {σ : L2.St} {H : Hp} {Q : VK} {q : Addr} {T : List Nat} {n i j : Nat} (h1 : σ[i]? = some (some (.ref q))) (h2 : σ[j]? = some (some (.int (n : Int)))) (hq : TI H q (ci T)) (k : ∀ H', Same H H' → Q (.int ((T.headD n : Nat) : Int)) H') :
    tIf (tTest (tOp (rNeD K) (tVar i) (tTup tNil))) (tOp (rIxT K) (tVar i) (tC (.int 0))) (tVar j) σ H Q := by
  refine ⟨_, h1, Nat.zero_le _, fun t nt => ?_⟩
  have s := same_upd (H := H) (p := t) (o := .tup []) nt
  refine ⟨.tuple ((ci T).map .int), .tuple [], .tup (SqT.of (s _ _ hq)) (dpAll_ints _), .tup (SqT.of upd_same) .nil, shaped_t _, shaped_t [], _, rfl, ?_⟩
  cases T with
  | nil => exact iteF ⟨_, h2, k _ s⟩
  | cons a r => exact iteT ⟨_, h1, q, _, 0, _, rfl, rfl, SqT.of (s _ _ hq), atI_nat (j := 0) rfl, k _ s⟩
theorem end_read {K : PySem.W.Frag} {X : List V → Hp → VK → Prop} {σ : L2.St} {H : Hp} {Q : VK} {q : Addr} {T : List Nat} {n m i j l : Nat} (h1 : σ[i]? = some (some (.ref q))) (h2 : σ[j]? = some (some (.int (n : Int)))) (h3 : σ[l]? = some (some (.int (m : Int)))) (hq : TI H q (ci T))
    (hX : ∀ (H : Hp) (Q : VK) (p : Addr) (ys : List V), H p = some (.tup ys) → Q (.int ys.length) H → X [.ref p] H Q) (k : Q (.int ((T.getD (m + 1) n : Nat) : Int)) H) :
    tIf (tTest (tOp (rI0 fun i j => V.bl (decide (i < j))) (tOp (rI0 fun i j => V.int (i + j)) (tVar l) (tC (.int 1))) (tCB X (tCons (tVar i) tNil)))) (tOp (rIxT K) (tVar i) (tOp (rI0 fun i j => V.int (i + j)) (tVar l) (tC (.int 1)))) (tVar j) σ H Q := by
  refine ⟨_, h3, _, _, rfl, rfl, _, h1, hX _ _ q _ hq ?_⟩
  refine ⟨_, _, rfl, rfl, _, rfl, ?_⟩
  rw [List.length_map, show (ci T).length = T.length from List.length_map ..]
  refine ite2 (fun h => ?_) (fun h => ?_)
  · have hl : m + 1 < T.length := by
      have := of_decide_eq_true h
      omega
    have e : T[m + 1]? = some (T.getD (m + 1) n) := by
      rw [List.getD_eq_getElem?_getD, List.getElem?_eq_getElem hl]
      rfl
    exact ⟨_, h1, _, h3, _, _, rfl, rfl, q, _, ((m + 1 : Nat) : Int), _, rfl, rfl, SqT.of hq, ci_at e, k⟩
  · have hl : T.length ≤ m + 1 := by
      have : ¬ ((m : Int) + 1 < (T.length : Int)) := fun z => h (decide_eq_true z)
      omega
    have e : T.getD (m + 1) n = n := by
      rw [List.getD_eq_getElem?_getD, List.getElem?_eq_none hl]
      rfl
    rw [e] at k
    exact ⟨_, h2, k⟩
section
variable {P : Program} {w : World} {K : PySem.W.Frag} {mg : Str → Option Value} {base : Heap}
def sp_Lsets : Sp := fun vs H Q _ => ∃ n : Nat, vs = [.int (n : Int)] ∧ n ≤ 6 ∧ ∀ H' o As, Same H H' → H' o = some (.lst (As.map V.ref)) → SetsAt H' As (setsM n) → Q (.ref o) H'
theorem ok_Lsets (T : Txt K mg) : Ok P w K mg base 1 "_law_sets" ["_law_many"] sp_Lsets := by
  refine T.d_Lsets.ok fun f fd F => ?_
  refine F.ok sc_Lsets (fun vs H Q E h => ?_) (fun cdv A outer s H vs Q E hr h => ?_)
  · obtain ⟨n, rfl, _⟩ := h
    rfl
  · obtain ⟨n, rfl, hn, q⟩ := h
    refine ⟨_, (pss_cons (ps_set (i := 1) sc_Lsets.nd rfl (.inl rfl) (pe_lst (pa_cons (pe_tup pa_nil) pa_nil)))
      (pss_cons (ps_for PassesOwn.never rfl (pi_range1 (by rfl) T.z_range (pa_cons (pv 0) pa_nil)) (pg_name (i := 2) sc_Lsets.nd rfl (.inr rfl))
        (pss_one (ps_set (i := 1) sc_Lsets.nd rfl (.inl rfl) (pe_op op_cat (pv 1) (pe_lc (own := [("_law_told", 3)]) (g := gName 3) (tt := tYes) rfl sc_Lsets.nd (pi_list (pv 1)) (blkOk_by (own := [("_law_told", 3)]) (N := N_Lsets) (sc := defScope s_Lsets) (by decide +kernel)) (fun _ _ _ _ _ => pg_name (i := 3) sc_Lsets.nd rfl (Or.inl rfl)) (fun _ _ _ _ _ => pts_nil) (fun _ _ _ _ _ => (pe_op (catK K rfl) (pv 3) (pe_tup (pa_cons (pv 2) pa_nil)))))))))
      (pss_one (ps_ret (pv 1))))), ?_⟩
    refine ⟨Nat.zero_le _, fun t0 nt0 => ⟨len1000 (by show 1 ≤ 1000; omega), fun o no => ?_⟩⟩
    have s0 := same_upd (H := H) (p := t0) (o := .tup []) nt0
    have s1 := same_upd (H := upd H t0 (.tup [])) (p := o) (o := .lst [.ref t0]) no
    refine ⟨_, rfl, _, rfl, by omega, by omega, ?_⟩
    rw [Int.toNat_natCast]
    refine for_rangeN (lo := 0) rfl (fun i σ H1 => ∃ o y2 y3 As, σ = [some (.int (n : Int)), some (.ref o), y2, y3] ∧ i ≤ n ∧ Same H H1 ∧ H1 o = some (.lst (As.map V.ref)) ∧ SetsAt H1 As (setsM i))
      ⟨o, none, none, [t0], rfl, Nat.zero_le _, s0.trans s1, upd_same, rfl, fun j A T a b => ?_⟩ (fun i σ H1 hi ⟨o, y2, y3, As, e, _, s2, ho, hS⟩ => ?_) (fun σ H1 ⟨o, y2, y3, As, e, _, s2, ho, hS⟩ => ?_)
    · match j, a, b with
      | 0, a, b =>
        cases a
        cases b
        exact s1 _ _ upd_same
      | j + 1, a, b => cases a
    · subst e
      have hp : 2 ^ i ≤ 32 := by
        have : i ≤ 5 := by omega
        exact Nat.pow_le_pow_right (by omega) this
      have hAl : As.length ≤ 32 := by rw [hS.len, setsM_len]; exact hp
      refine ⟨_, rfl, _, rfl, o, rfl, ⟨_, SqL.of ho⟩, fun D hD => ?_⟩
      refine lc_list_new (fun T => T ++ [0 + i]) ho hS (by omega) hD (fun i' a T H2 R ha hT s3 hta k => ⟨rfl, ?_⟩) (fun H2 bs s3 hb hS2 => ?_)
      · refine ⟨_, rfl, _, rfl, len1000 (by show 1 ≤ 1000; omega), fun t nt => ?_⟩
        have s4 := same_upd (H := H2) (p := t) (o := .tup [.int ((0 + i : Nat) : Int)]) nt
        have A := setsM_asc i T (List.mem_of_getElem? hT)
        have hTl : T.length ≤ 32 := by
          have := A.len
          omega
        refine cat_read (s4 _ _ hta) upd_same (by rw [List.length_map, show (ci T).length = T.length from List.length_map ..]; show T.length + 1 ≤ 1000; omega) fun p5 H5 s5 h5 => ?_
        refine k p5 H5 (s4.trans s5) ?_
        show H5 p5 = some (.tup ((ci (T ++ [0 + i])).map V.int))
        rw [h5]
        unfold ci
        rw [List.map_append, List.map_append]
        rfl
      · refine ⟨o, D, _, _, rfl, rfl, s3 _ _ ho, hb, ?_, fun o2 no2 => ?_⟩
        · rw [List.length_map, List.length_map, hS2.len, List.length_map, ← hS.len]
          exact len1000 (by omega)
        · have s6 := same_upd (H := H2) (p := o2) (o := .lst (As.map V.ref ++ bs.map V.ref)) no2
          refine ⟨o2, _, _, As ++ bs, rfl, hi, s2.trans (s3.trans s6), ?_, ?_⟩
          · rw [upd_same, List.map_append]
          · rw [Nat.zero_add] at hS2
            exact ((hS.same s3).append hS2).same s6
    · subst e
      exact ⟨_, rfl, q H1 o As s2 ho hS⟩
/-- the starts gone through -/
def fpart (d : List Int) (n : Nat) (T : List Nat) (i m : Nat) : Int := if m ∈ T.take i then fil d n T m else 0
def sp_Lfilled : Sp := fun vs H Q _ => ∃ (p q a b c e : Addr) (Z : Pb) (n : Nat) (T : List Nat), vs = [.ref p, .ref q] ∧ PAt H p Z a b c e ∧ Wf Z n ∧ TI H q (ci T) ∧ Asc T n ∧
  (0 < seg Z.d 0 (T.headD n) → ∀ H', Same H H' → Q .non H') ∧ (¬ 0 < seg Z.d 0 (T.headD n) → ∀ H' t xs, Same H H' → TI H' t xs → FilOk Z.d n T xs → Q (.ref t) H')
theorem ok_Lfilled (T : Txt K mg) : Ok P w K mg base 1 "_law_filled" ["_law_problem_here", "_law_told"] sp_Lfilled := by
  refine T.d_Lfilled.ok fun f fd F => ?_
  refine F.ok sc_Lfilled (fun vs H Q E h => ?_) (fun cdv A outer s H vs Q E hr h => ?_)
  · obtain ⟨p, q, a, b, c, e, Z, n, T, rfl, _⟩ := h
    rfl
  · obtain ⟨p, q, a, b, c, e, Z, n, U, rfl, hp, wf, hq, asc, k0, k1⟩ := h
    have n12 := wf.n12
    have hf : U.headD n ≤ n := by
      cases U with
      | nil => exact Nat.le_refl _
      | cons x r => exact Nat.le_of_lt (asc.lt x (List.mem_cons_self ..))
    have hUl : U.length ≤ 12 := by
      have := asc.len
      omega
    refine ⟨_, (pss_cons (ps_set (i := 2) sc_Lfilled.nd rfl (.inl rfl) (pe_callB call_len_seq (by rfl) T.z_len PySem.boot_len (pa_cons (pe_ix ix_tup (pv 0) pe_int (fun _ _ => rfl)) pa_nil)))
      (pss_cons (ps_set (i := 3) sc_Lfilled.nd rfl (.inl rfl) (pe_ifExp (pt_cmpR (op_neD hr.units) (pv 1) (pe_tup pa_nil) (nomark _)) (pe_ix ix_tup (pv 1) pe_int (fun _ _ => rfl)) (pv 2)))
      (pss_cons (ps_if (pt_cmpR op_gt (pe_callB (cr_sumT rfl) (by rfl) T.z_sum (by decide +kernel) (pa_cons (pe_slice sl_tupA (pe_ix ix_tup (pv 0) pe_int (fun _ _ => rfl)) po_none (po_some (pv 3))) pa_nil)) pe_int (nomark _))
        (pss_one (ps_ret pe_non))
        pss_nil)
      (pss_cons (ps_set (i := 4) sc_Lfilled.nd rfl (.inl rfl) (pe_op op_rep (pe_lst (pa_cons pe_int pa_nil)) (pv 2)))
      (pss_cons (ps_for PassesOwn.never rfl (pi_range1 (by rfl) T.z_range (pa_cons (pe_callB call_len_seq (by rfl) T.z_len PySem.boot_len (pa_cons (pv 1) pa_nil)) pa_nil)) (pg_name (i := 5) sc_Lfilled.nd rfl (.inl rfl))
        (pss_cons (ps_set (i := 6) sc_Lfilled.nd rfl (.inl rfl) (pe_ifExp (pt_cmpR op_lt (pe_op op_add (pv 5) pe_int) (pe_callB call_len_seq (by rfl) T.z_len PySem.boot_len (pa_cons (pv 1) pa_nil)) (nomark _)) (pe_ix ix_tup (pv 1) (pe_op op_add (pv 5) pe_int) (fun _ _ => rfl)) (pv 2)))
          (pss_one (ps_asg (pe_callB (cr_sumT rfl) (by rfl) T.z_sum (by decide +kernel) (pa_cons (pe_slice sl_tupA (pe_ix ix_tup (pv 0) pe_int (fun _ _ => rfl)) (po_some (pe_ix ix_tup (pv 1) (pv 5) (fun _ _ => rfl))) (po_some (pv 6))) pa_nil)) (pg_sub (pv 4) (pe_ix ix_tup (pv 1) (pv 5) (fun _ _ => rfl)) set_list)))))
      (pss_one (ps_ret (pe_callTy call_tuple_of (by rfl) T.z_tuple (by decide +kernel) (pa_cons (pv 4) pa_nil))))))))), ?_⟩
    refine ⟨_, rfl, p, _, 0, _, rfl, rfl, SqT.of hp.top, at0, a, _, rfl, .inr (SqT.of hp.d), ?_⟩
    rw [List.length_map, wf.ld]
    refine set_in ?_
    try dsimp only
    refine seq_asg ?_
    refine first_read (n := n) rfl rfl hq fun H1 s1 => ?_
    have hp1 := hp.same s1
    refine ⟨_, rfl, p, _, 0, _, rfl, rfl, SqT.of hp1.top, at0, _, rfl, _, rfl, ?_⟩
    refine sl_read hp1.d (cut_to _ _ (by rw [wf.ld]; exact hf)) fun t2 H2 s2 ht2 => ?_
    refine ⟨t2, _, rfl, SqT.of ht2, _, _, rfl, rfl, _, rfl, ?_⟩
    rw [seg_zero]
    refine ite2 (fun hg => k0 (of_decide_eq_true hg) H2 (s1.trans s2)) (fun hg => ?_)
    have hg' : ¬ 0 < seg Z.d 0 (U.headD n) := fun z => hg (decide_eq_true z)
    refine ⟨len1000 (by show 1 ≤ 1000; omega), fun o1 no1 => ?_⟩
    refine ⟨_, rfl, o1, _, _, rfl, rfl, upd_same, by omega, by omega, len1000 (by show 1 * _ ≤ 1000; rw [Int.toNat_natCast]; omega), fun o no => ?_⟩
    rw [Int.toNat_natCast, rep_flat]
    have s3 := same_upd (H := H2) (p := o1) (o := .lst [.int 0]) no1
    have s4 := same_upd (H := upd H2 o1 (.lst [.int 0])) (p := o) (o := .lst ((List.replicate n (0 : Int)).map V.int)) no
    have s14 := s1.trans (s2.trans (s3.trans s4))
    have s13 := s1.trans (s2.trans s3)
    refine ⟨_, rfl, q, _, rfl, .inr (SqT.of (hq.same s14)), _, rfl, ?_⟩
    rw [List.length_map, show (ci U).length = U.length from List.length_map ..]
    refine ⟨by omega, by omega, ?_⟩
    rw [Int.toNat_natCast]
    refine for_rangeN (lo := 0) rfl (fun i σ H5 => ∃ y5 y6 fs, σ = [some (.ref p), some (.ref q), some (.int (n : Int)), some (.int ((U.headD n : Nat) : Int)), some (.ref o), y5, y6] ∧ i ≤ U.length ∧ Same (upd H2 o1 (.lst [.int 0])) H5 ∧ H5 o = some (.lst (fs.map V.int)) ∧ fs.length = n ∧ ∀ m, m < n → g fs m = fpart Z.d n U i m)
      ⟨none, none, List.replicate n 0, rfl, Nat.zero_le _, s4, upd_same, List.length_replicate .., fun m hm => ?_⟩ (fun i σ H5 hi ⟨y5, y6, fs, e', _, s5, ho, hfl, hfs⟩ => ?_) (fun σ H5 ⟨y5, y6, fs, e', _, s5, ho, hfl, hfs⟩ => ?_)
    · unfold fpart g
      rw [List.take_zero, if_neg (List.not_mem_nil), List.getD_eq_getElem?_getD, List.getElem?_replicate, if_pos hm]
      rfl
    · subst e'
      have s15 := s13.trans s5
      have hp5 := hp.same s15
      have hq5 := hq.same s15
      rw [Nat.zero_add]
      obtain ⟨t, ht⟩ : ∃ t, U[i]? = some t := ⟨_, List.getElem?_eq_getElem hi⟩
      have htn : t < n := asc.lt t (List.mem_of_getElem? ht)
      have hat := ci_at ht
      have hend : U.getD (i + 1) n ≤ n := by
        by_cases h : i + 1 < U.length
        · rw [List.getD_eq_getElem?_getD, List.getElem?_eq_getElem h]
          exact Nat.le_of_lt (asc.lt _ (List.getElem_mem h))
        · rw [List.getD_eq_getElem?_getD, List.getElem?_eq_none (by omega)]
          exact Nat.le_refl _
      refine end_read (n := n) (m := i) rfl rfl rfl hq5 (fun H Q p ys h k => ⟨p, ys, rfl, .inr (SqT.of h), k⟩) ?_
      refine ⟨_, rfl, p, _, 0, _, rfl, rfl, SqT.of hp5.top, at0, _, rfl, _, rfl, q, _, _, _, rfl, rfl, SqT.of hq5, hat, _, rfl, _, rfl, _, rfl, ?_⟩
      refine sl_read hp5.d (cut_map _ _ _ (by rw [wf.ld]; omega) (by rw [wf.ld]; exact hend)) fun t6 H6 s6 h6 => ?_
      have hq6 := hq5.same s6
      refine ⟨t6, _, rfl, SqT.of h6, _, rfl, _, rfl, _, rfl, q, _, _, _, rfl, rfl, SqT.of hq6, hat, o, _, _, t, rfl, rfl, s6 _ _ ho, ixN_nat (by rw [List.length_map, hfl]; exact htn), ?_⟩
      refine ⟨_, _, fs.set t (seg Z.d t (U.getD (i + 1) n)), rfl, hi, fun b' z hz => ?_, ?_, by rw [List.length_set]; exact hfl, fun m hm => ?_⟩
      · rw [upd_ne (ne_of_none hz no)]
        exact s6 _ _ (s5 _ _ hz)
      · rw [upd_same, List.map_set]
        rfl
      · rw [g_set (by rw [hfl]; exact htn)]
        unfold fpart
        rw [List.take_add_one, ht, Option.toList_some]
        by_cases hmt : m = t
        · subst hmt
          rw [if_pos rfl, if_pos (List.mem_append_right _ (List.mem_singleton.mpr rfl)), fil_at asc.pw ht]
        · rw [if_neg hmt, hfs m hm]
          unfold fpart
          by_cases hmm : m ∈ U.take i
          · rw [if_pos hmm, if_pos (List.mem_append_left _ hmm)]
          · rw [if_neg hmm, if_neg]
            intro z
            rcases List.mem_append.mp z with z | z
            · exact hmm z
            · exact hmt (List.mem_singleton.mp z)
    · subst e'
      refine ⟨_, rfl, o, _, rfl, .inl ⟨SqL.of ho, fun t nt => ?_⟩⟩
      have s7 := same_upd (H := H5) (p := t) (o := .tup (fs.map V.int)) nt
      refine k1 hg' _ t fs (s13.trans (s5.trans s7)) upd_same ⟨hfl, fun m hm => ?_⟩
      rw [hfs m hm]
      unfold fpart
      rw [List.take_length]
      by_cases hmm : m ∈ U
      · rw [if_pos hmm]
      · rw [if_neg hmm, fil_not hmm]
end
end Lp

/-! _law_intervals, _law_least. -/
namespace Lp
open PySem PySem.Spec PyProof.Rows L2 LpR
/-- the heap with one object forgotten -/
def hide (H : Hp) (d : Addr) : Hp := fun b => if b = d then none else H b
theorem hide_at {H : Hp} {d : Addr} : hide H d d = none := if_pos rfl
theorem hide_ne {H : Hp} {d b : Addr} (h : b ≠ d) : hide H d b = H b := if_neg h
theorem hide_same {H : Hp} {d : Addr} : Same (hide H d) H := fun b o h => by
  by_cases e : b = d
  · rw [e, hide_at] at h
    cases h
  · rw [hide_ne e] at h
    exact h
theorem hide_keep {H : Hp} {d b : Addr} {o u : HO} (h : H b = some o) (hd : H d = some u) (n : o ≠ u) : hide H d b = some o := by
  rw [hide_ne (ne_of h hd n)]
  exact h
theorem hide_upd {H H' : Hp} {d : Addr} {o : HO} (s : Same (hide H d) H') : Same (hide H d) (upd H' d o) := fun b z h => by
  have hb : b ≠ d := fun e => by rw [e, hide_at] at h; cases h
  rw [upd_ne hb]
  exact s _ _ h
def kk (xs : List Int) : List Key := xs.map Sum.inl
theorem kk_inj : ∀ {xs ys : List Int}, kk xs = kk ys → xs = ys
  | [], [], _ => rfl
  | [], _ :: _, h => by cases h
  | _ :: _, [], h => by cases h
  | x :: xs, y :: ys, h => by
    have h1 := (List.cons.inj h).1
    have h2 := (List.cons.inj h).2
    rw [Sum.inl.inj h1, kk_inj h2]
theorem kk_kV (xs : List Int) : (kk xs).map kV = xs.map V.int := by
  unfold kk
  rw [List.map_map]
  rfl
theorem g_ext {xs ys : List Int} (hl : xs.length = ys.length) (h : ∀ i, i < xs.length → g xs i = g ys i) : xs = ys := by
  refine List.ext_getElem hl fun i h1 h2 => ?_
  have := h i h1
  unfold g at this
  rw [List.getD_eq_getElem?_getD, List.getD_eq_getElem?_getD, List.getElem?_eq_getElem h1, List.getElem?_eq_getElem h2] at this
  exact this
theorem FilOk.uniq {d : List Int} {n : Nat} {T : List Nat} {xs ys : List Int} (h1 : FilOk d n T xs) (h2 : FilOk d n T ys) : xs = ys :=
  g_ext (h1.len.trans h2.len.symm) fun i hi => by
    rw [h1.len] at hi
    rw [h1.el i hi, h2.el i hi]
/-- a start set that is allowed: no demand ahead of the first -/
def Val (Z : Pb) (n : Nat) (T : List Nat) : Prop := ¬ 0 < seg Z.d 0 (T.headD n)
structure DictOk (Z : Pb) (n : Nat) (Ts : List (List Nat)) (kvs : List (List Key × V)) : Prop where
  ex : ∀ e ∈ kvs, ∃ T xs, T ∈ Ts ∧ Val Z n T ∧ FilOk Z.d n T xs ∧ e.1 = kk xs ∧ e.2 = .int (cpre Z xs n)
  all : ∀ T ∈ Ts, Val Z n T → ∃ xs, FilOk Z.d n T xs ∧ valV kvs (kk xs) = some (.int (cpre Z xs n))
theorem valV_mem {κ : Type} [DecidableEq κ] {kvs : List (κ × V)} {k : κ} {v : V} (h : valV kvs k = some v) : ∃ e ∈ kvs, e.1 = k ∧ e.2 = v := by
  unfold valV at h
  cases hf : kvs.find? fun kv => decide (kv.1 = k) with
  | none =>
    rw [hf] at h
    cases h
  | some e =>
    rw [hf] at h
    exact ⟨e, List.mem_of_find?_eq_some hf, of_decide_eq_true (p := e.1 = k) (List.find?_some (p := fun kv : κ × V => decide (kv.1 = k)) hf), Option.some.inj h⟩
theorem valV_of {κ : Type} [DecidableEq κ] {kvs : List (κ × V)} {e : κ × V} (h : e ∈ kvs) : ∃ v, valV kvs e.1 = some v := by
  unfold valV
  cases hf : kvs.find? fun kv => decide (kv.1 = e.1) with
  | none =>
    have := List.find?_eq_none.mp hf e h
    exact absurd (decide_eq_true rfl) this
  | some z => exact ⟨z.2, rfl⟩
theorem putK_mem {κ : Type} [DecidableEq κ] {kvs : List (κ × V)} {k : κ} {v : V} {e : κ × V} (h : e ∈ putK kvs k v) : e ∈ kvs ∨ e = (k, v) := by
  unfold putK at h
  split at h
  · obtain ⟨z, hz, rfl⟩ := List.mem_map.mp h
    by_cases c : z.1 = k
    · rw [if_pos c, ← c]
      exact .inr rfl
    · rw [if_neg c]
      exact .inl hz
  · rcases List.mem_append.mp h with h | h
    · exact .inl h
    · exact .inr (List.mem_singleton.mp h)
theorem putK_len_old {κ : Type} [DecidableEq κ] {kvs : List (κ × V)} {k : κ} {v u : V} (h : valV kvs k = some u) : (putK kvs k v).length = kvs.length := by
  unfold putK
  rw [valV_any, h]
  rw [if_pos (show (some u).isSome = true from rfl), List.length_map]
theorem DictOk.skip {Z : Pb} {n : Nat} {Ts : List (List Nat)} {T : List Nat} {kvs : List (List Key × V)} (h : DictOk Z n Ts kvs) (hT : ¬ Val Z n T) : DictOk Z n (Ts ++ [T]) kvs := by
  refine ⟨fun e he => ?_, fun U hU hv => ?_⟩
  · obtain ⟨U, xs, h1, h2⟩ := h.ex e he
    exact ⟨U, xs, List.mem_append_left _ h1, h2⟩
  · rcases List.mem_append.mp hU with hU | hU
    · exact h.all U hU hv
    · rw [List.mem_singleton.mp hU] at hv
      exact absurd hv hT
theorem DictOk.put {Z : Pb} {n : Nat} {Ts : List (List Nat)} {T : List Nat} {xs : List Int} {kvs : List (List Key × V)} (h : DictOk Z n Ts kvs) (hT : Val Z n T) (F : FilOk Z.d n T xs) : DictOk Z n (Ts ++ [T]) (putK kvs (kk xs) (.int (cpre Z xs n))) := by
  refine ⟨fun e he => ?_, fun U hU hv => ?_⟩
  · rcases putK_mem he with he | he
    · obtain ⟨U, ys, h1, h2⟩ := h.ex e he
      exact ⟨U, ys, List.mem_append_left _ h1, h2⟩
    · subst he
      exact ⟨T, xs, List.mem_append_right _ (List.mem_singleton.mpr rfl), hT, F, rfl, rfl⟩
  · rcases List.mem_append.mp hU with hU | hU
    · obtain ⟨ys, h1, h2⟩ := h.all U hU hv
      refine ⟨ys, h1, ?_⟩
      rw [valV_put]
      by_cases e : kk ys = kk xs
      · rw [if_pos e, kk_inj e]
      · rw [if_neg e]
        exact h2
    · rw [List.mem_singleton.mp hU]
      refine ⟨xs, F, ?_⟩
      rw [valV_put, if_pos rfl]
theorem setsM_two : ∀ n, 1 ≤ n → ∃ r, setsM n = [] :: [0] :: r
  | 1, _ => ⟨[], rfl⟩
  | n + 2, _ => by
    obtain ⟨r, hr⟩ := setsM_two (n + 1) (by omega)
    refine ⟨r ++ (setsM (n + 1)).map (fun T => T ++ [n + 1]), ?_⟩
    show setsM (n + 1) ++ (setsM (n + 1)).map (fun T => T ++ [n + 1]) = _
    rw [hr]
    rfl
/-- how many keys there are behind i start sets -/
structure LenOk (i : Nat) (kvs : List (List Key × V)) : Prop where
  a : kvs.length ≤ i
  b : 2 ≤ i → kvs.length + 1 ≤ i
theorem LenOk.skip {i : Nat} {kvs : List (List Key × V)} (h : LenOk i kvs) (h1 : i ≠ 1) : LenOk (i + 1) kvs := by
  refine ⟨Nat.le_succ_of_le h.a, fun h2 => ?_⟩
  have := h.a
  omega
theorem fil_zero {d : List Int} {n : Nat} {T : List Nat} (h : T = [] ∨ T = [0]) (hs : seg d 0 n = 0) (i : Nat) : fil d n T i = 0 := by
  rcases h with h | h
  · subst h
    rfl
  · subst h
    show (if i = 0 then seg d 0 n else 0) = 0
    split
    · exact hs
    · rfl
theorem LenOk.put {Z : Pb} {n i : Nat} {kvs : List (List Key × V)} {xs : List Int} {v : V} (wf : Wf Z n) (h : LenOk i kvs) (D : DictOk Z n ((setsM n).take i) kvs) (F : ∃ T, (setsM n)[i]? = some T ∧ FilOk Z.d n T xs) : LenOk (i + 1) (putK kvs (kk xs) v) := by
  have hl := length_putK kvs (kk xs) v
  have ha := h.a
  refine ⟨by omega, fun h2 => ?_⟩
  by_cases e : i = 1
  · subst e
    obtain ⟨r, hr⟩ := setsM_two n wf.n1
    obtain ⟨T, hT, F⟩ := F
    rw [hr] at hT D
    cases hT
    cases kvs with
    | nil =>
      rw [List.length_nil] at hl
      omega
    | cons e0 r0 =>
      obtain ⟨T, ys, h1, h2, h3, h4, h5⟩ := D.ex e0 (List.mem_cons_self ..)
      have hT0 : T = [] := List.mem_singleton.mp h1
      subst hT0
      have hs : seg Z.d 0 n = 0 := by
        have := wf.segd 0 n
        have h2' : ¬ 0 < seg Z.d 0 n := h2
        omega
      have exy : xs = ys := g_ext (F.len.trans h3.len.symm) fun j hj => by
        rw [F.len] at hj
        rw [F.el j hj, h3.el j hj, fil_zero (.inl rfl) hs, fil_zero (.inr rfl) hs]
      obtain ⟨u, hu⟩ := valV_of (List.mem_cons_self (a := e0) (l := r0))
      rw [h4, ← exy] at hu
      have := putK_len_old (v := v) hu
      omega
  · have := h.b
    by_cases e2 : 2 ≤ i
    · have := h.b e2
      omega
    · omega
/-- the ints of a tuple in the heap -/
def toI : V → Int
  | .int i => i
  | _ => 0
def rdT (H : Hp) (c : Addr) : List Int := match H c with
  | some (.tup xs) => xs.map toI
  | _ => []
theorem rdT_of {H : Hp} {c : Addr} {ns : List Int} (h : TI H c ns) : rdT H c = ns := by
  unfold rdT
  rw [show H c = some (.tup (ns.map V.int)) from h]
  show (ns.map V.int).map toI = ns
  rw [List.map_map]
  exact (List.map_congr_left fun _ _ => rfl).trans (List.map_id ns)
/-- over a list of references: a number each -/
theorem lc_list_ints {K : PySem.W.Frag} {o : Addr} {As : List Addr} {te : TE} {j : Nat} {vs : List Nat} {σ : L2.St} {H1 : Hp} {D : Addr} {Qd : Hp → Prop} (f : Addr → Int) (hx : H1 o = some (.lst (As.map V.ref))) (hn : As.length ≤ 1000) (hD : H1 D = none)
    (hs : ∀ (a : Addr) (H : Hp) (R : VK), a ∈ As → Same H1 H → (∀ H4, Same H H4 → R (.int (f a)) H4) → gName j (.ref a) (wipe σ vs) H fun σ2 H2 => wipe σ2 vs = wipe σ vs ∧ te σ2 H2 R)
    (hd : ∀ (H : Hp), Same H1 H → H D = some (.lst ((As.map f).map V.int)) → Qd H) :
    LcEnd (Itl K o) (gName j) tYes te vs σ H1 D Qd := by
  refine lc_list (xs := As.map V.ref) (fun i H => i ≤ As.length ∧ Same H1 H ∧ H D = some (.lst (((As.take i).map f).map V.int)))
    ⟨Nat.zero_le _, same_upd hD, upd_same⟩ (fun i H _ ⟨_, sm, _⟩ => SqL.of (sm _ _ hx)) (fun i x H hi ⟨hle, sm, hb⟩ => ?_) fun H ⟨_, sm, hb⟩ => ?_
  · rw [List.getElem?_map] at hi
    cases ea : As[i]? with
    | none =>
      rw [ea] at hi
      cases hi
    | some a =>
      rw [ea] at hi
      cases hi
      have hlt : i < As.length := (List.getElem?_eq_some_iff.mp ea).1
      have key := hs a H (fun y H4 => ∃ acc, H4 D = some (.lst acc) ∧ acc.length < sizeLine ∧ i + 1 ≤ As.length ∧ Same H1 (upd H4 D (.lst (acc ++ [y]))) ∧ (upd H4 D (.lst (acc ++ [y]))) D = some (.lst (((As.take (i + 1)).map f).map V.int))) (List.mem_of_getElem? ea) sm (fun H4 s4 => ?_)
      · exact key
      · refine ⟨_, s4 _ _ hb, by rw [List.length_map, List.length_map, List.length_take]; exact small1000 (by omega), hlt, fun b o' ho => ?_, ?_⟩
        · rw [upd_ne (ne_of_none ho hD)]
          exact s4 _ _ (sm _ _ ho)
        · rw [upd_same, List.take_add_one, ea, List.map_append, List.map_append]
          rfl
  · refine hd H sm ?_
    rw [List.length_map, List.take_length] at hb
    exact hb
theorem isKeys_mem {H : Hp} {kvs : List (List Key × V)} {bs : List Addr} (h : IsKeys H kvs bs) {b : Addr} (hb : b ∈ bs) : ∃ e ∈ kvs, H b = some (.tup (e.1.map kV)) := by
  unfold IsKeys at h
  induction h with
  | nil => cases hb
  | cons r t ih =>
    rcases List.mem_cons.mp hb with z | z
    · subst z
      exact ⟨_, List.mem_cons_self .., r⟩
    · obtain ⟨e, h1, h2⟩ := ih z
      exact ⟨e, List.mem_cons_of_mem _ h1, h2⟩
theorem isKeys_all {H : Hp} {kvs : List (List Key × V)} {bs : List Addr} (h : IsKeys H kvs bs) {e : List Key × V} (he : e ∈ kvs) : ∃ b ∈ bs, H b = some (.tup (e.1.map kV)) := by
  unfold IsKeys at h
  induction h with
  | nil => cases he
  | cons r t ih =>
    rcases List.mem_cons.mp he with z | z
    · subst z
      exact ⟨_, List.mem_cons_self .., r⟩
    · obtain ⟨e, h1, h2⟩ := ih z
      exact ⟨e, List.mem_cons_of_mem _ h1, h2⟩
theorem seg_le {l : List Int} (h : ∀ x ∈ l, 0 ≤ x ∧ x ≤ 999) (hl : l.length ≤ 12) (a b : Nat) : seg l a b ≤ 99999 := by
  have : ∀ m : List Int, (∀ x ∈ m, 0 ≤ x ∧ x ≤ 999) → m.sum ≤ 999 * m.length := by
    intro m
    induction m with
    | nil => intro _; decide
    | cons x r ih =>
      intro hm
      rw [List.sum_cons, List.length_cons]
      have h1 := hm x (List.mem_cons_self ..)
      have h2 := ih fun y hy => hm y (List.mem_cons_of_mem _ hy)
      omega
  have h1 := this ((l.drop a).take (b - a)) fun x hx => h x (List.mem_of_mem_drop (List.mem_of_mem_take hx))
  have h2 : ((l.drop a).take (b - a)).length ≤ l.length := by
    rw [List.length_take, List.length_drop]
    omega
  have h3 : seg l a b ≤ 999 * (((l.drop a).take (b - a)).length : Int) := h1
  omega
theorem fil_bd {Z : Pb} {n : Nat} (wf : Wf Z n) : ∀ (T : List Nat) (i : Nat), 0 ≤ fil Z.d n T i ∧ fil Z.d n T i ≤ 99999
  | [], i => by
    show (0 : Int) ≤ 0 ∧ (0 : Int) ≤ 99999
    omega
  | a :: r, i => by
    show 0 ≤ (if i = a then seg Z.d a (r.headD n) else fil Z.d n r i) ∧ (if i = a then seg Z.d a (r.headD n) else fil Z.d n r i) ≤ 99999
    split
    · exact ⟨wf.segd _ _, seg_le wf.bd (by rw [wf.ld]; exact wf.n12) _ _⟩
    · exact fil_bd wf r i
theorem DictOk.key {Z : Pb} {n : Nat} {Ts : List (List Nat)} {kvs : List (List Key × V)} (D : DictOk Z n Ts kvs) (wf : Wf Z n) {e : List Key × V} (he : e ∈ kvs) : ∃ ns : List Int, e.1 = ns.map Sum.inl ∧ ns.length = n ∧ TS.Bd 100000 ns := by
  obtain ⟨T, xs, h1, h2, F, h4, h5⟩ := D.ex e he
  refine ⟨xs, h4, F.len, fun m hm => ?_⟩
  obtain ⟨i, hi, rfl⟩ := List.getElem_of_mem hm
  have := fil_bd wf T i
  rw [← F.el i (by rw [← F.len]; exact hi)] at this
  unfold g at this
  rw [List.getD_eq_getElem?_getD, List.getElem?_eq_getElem hi] at this
  have h6 : 0 ≤ xs[i] ∧ xs[i] ≤ 99999 := this
  omega
/-- the value that a key stands for -/
theorem DictOk.look {Z : Pb} {n : Nat} {Ts : List (List Nat)} {kvs : List (List Key × V)} (D : DictOk Z n Ts kvs) {xs : List Int} {v : V} (h : valV kvs (kk xs) = some v) : v = .int (cpre Z xs n) := by
  obtain ⟨e, he, h1, h2⟩ := valV_mem h
  obtain ⟨T, ys, _, _, _, h4, h5⟩ := D.ex e he
  rw [h1] at h4
  rw [← h2, h5, kk_inj h4]
structure LeastOk (Z : Pb) (n : Nat) (m : Int) : Prop where
  ex : ∃ T xs, T ∈ setsM n ∧ Val Z n T ∧ FilOk Z.d n T xs ∧ m = cpre Z xs n
  le : ∀ T xs, T ∈ setsM n → Val Z n T → FilOk Z.d n T xs → m ≤ cpre Z xs n
section
variable {P : Program} {w : World} {K : PySem.W.Frag} {mg : Str → Option Value} {base : Heap}
def sp_Lintervals : Sp := fun vs H Q _ => ∃ (p a b c e : Addr) (Z : Pb) (n : Nat), vs = [.ref p] ∧ PAt H p Z a b c e ∧ Wf Z n ∧ n ≤ 6 ∧
  ∀ H' d kvs, Same H H' → H d = none → H' d = some (.dT kvs) → DictOk Z n (setsM n) kvs → kvs.length < 64 → Q (.ref d) H'
theorem ok_Lintervals (T : Txt K mg) : Ok P w K mg base 3 "_law_intervals" ["_law_problem_here"] sp_Lintervals := by
  obtain ⟨f_Lsets, fd_Lsets, G_Lsets, g_Lsets, k_Lsets, b_Lsets⟩ := ok_Lsets (P := P) (w := w) (base := base) T
  obtain ⟨f_Lfilled, fd_Lfilled, G_Lfilled, g_Lfilled, k_Lfilled, b_Lfilled⟩ := ok_Lfilled (P := P) (w := w) (base := base) T
  obtain ⟨f_Lcost, fd_Lcost, G_Lcost, g_Lcost, k_Lcost, b_Lcost⟩ := ok_Lcost (P := P) (w := w) (base := base) T
  refine T.d_Lintervals.ok fun f fd F => ?_
  refine F.ok sc_Lintervals (fun vs H Q E h => ?_) (fun cdv A outer s H vs Q E hr h => ?_)
  · obtain ⟨p, a, b, c, e, Z, n, rfl, _⟩ := h
    rfl
  · obtain ⟨p, a, b, c, e, Z, n, rfl, hp, wf, hn, q⟩ := h
    have hu := hu_of hr
    refine ⟨_, (pss_cons (ps_set (i := 1) sc_Lintervals.nd rfl (.inl rfl) pe_dnewT)
      (pss_cons (ps_for PassesOwn.never rfl (pi_list (pe_call G_Lsets (hr.mono (by decide)) (by rfl) g_Lsets k_Lsets b_Lsets .nil pass0 (pa_cons (pe_callB call_len_seq (by rfl) T.z_len PySem.boot_len (pa_cons (pe_ix ix_tup (pv 0) pe_int (fun _ _ => rfl)) pa_nil)) pa_nil))) (pg_name (i := 2) sc_Lintervals.nd rfl (.inl rfl))
        (pss_cons (ps_set (i := 3) sc_Lintervals.nd rfl (.inl rfl) (pe_call G_Lfilled (hr.mono (by decide)) (by rfl) g_Lfilled k_Lfilled b_Lfilled .nil pass0 (pa_cons (pv 0) (pa_cons (pv 2) pa_nil))))
          (pss_one (ps_if (pt_cmpR op_notN (pv 3) pe_non (nomark _))
            (pss_one (ps_dput hu (pv 1) (pv 3) (pe_call G_Lcost (hr.mono (by decide)) (by rfl) g_Lcost k_Lcost b_Lcost .nil pass0 (pa_cons (pv 0) (pa_cons (pv 3) pa_nil))) rfl))
            pss_nil))))
      (pss_one (ps_ret (pv 1))))), ?_⟩
    intro d nd
    have s0 := same_upd (H := H) (p := d) (o := .dT []) nd
    have hp0 := hp.same s0
    refine ⟨_, rfl, p, _, 0, _, rfl, rfl, SqT.of hp0.top, at0, a, _, rfl, .inr (SqT.of hp0.d), ?_⟩
    rw [List.length_map, wf.ld]
    refine ⟨n, rfl, hn, fun H1 o As s1 ho hS => ⟨o, rfl, ⟨_, SqL.of ho⟩, ?_⟩⟩
    have hd1 : H1 d = some (.dT []) := s1 _ _ upd_same
    have hp1 := hp0.same s1
    -- the base: all but the dict
    have kT : ∀ {b : Addr} {xs : List V}, H1 b = some (.tup xs) → hide H1 d b = some (.tup xs) := fun h => hide_keep h hd1 (by intro z; cases z)
    have hB0 : Same H (hide H1 d) := fun b' o' h' => by
      rw [hide_ne (ne_of_none h' nd)]
      exact s1 _ _ (s0 _ _ h')
    have hpB : PAt (hide H1 d) p Z a b c e := ⟨kT hp1.top, kT hp1.d, kT hp1.s, kT hp1.u, kT hp1.h⟩
    have hSB : SetsAt (hide H1 d) As (setsM n) := ⟨hS.len, fun j A T h1 h2 => kT (hS.el j A T h1 h2)⟩
    have hoB : hide H1 d o = some (.lst (As.map V.ref)) := hide_keep ho hd1 (by intro z; cases z)
    have hlenA : As.length = (setsM n).length := hS.len
    refine for_list (K := K) (a := o) (xs := As.map V.ref) (fun i σ H2 => ∃ y2 y3 kvs, σ = [some (.ref p), some (.ref d), y2, y3] ∧ Same (hide H1 d) H2 ∧ H2 d = some (.dT kvs) ∧ DictOk Z n ((setsM n).take i) kvs ∧ LenOk i kvs)
      ⟨none, none, [], rfl, hide_same, hd1, ⟨fun e he => absurd he List.not_mem_nil, fun U hU => absurd hU List.not_mem_nil⟩, ⟨Nat.le_refl _, fun h => absurd h (by decide)⟩⟩ (fun i σ H2 _ ⟨_, _, _, _, s2, _⟩ => SqL.of (s2 _ _ hoB)) (fun i x σ H2 hi ⟨y2, y3, kvs, e', s2, hd2, DK, LK⟩ => ?_) (fun σ H2 ⟨y2, y3, kvs, e', s2, hd2, DK, LK⟩ => ?_)
    · subst e'
      rw [List.getElem?_map] at hi
      obtain ⟨A, ea, rfl⟩ : ∃ A, As[i]? = some A ∧ x = .ref A := by
        cases ea : As[i]? with
        | none =>
          rw [ea] at hi
          cases hi
        | some A =>
          rw [ea] at hi
          cases hi
          exact ⟨A, rfl, rfl⟩
      have hlt : i < (setsM n).length := by
        rw [← hlenA]
        exact (List.getElem?_eq_some_iff.mp ea).1
      have eT : (setsM n)[i]? = some (setsM n)[i] := List.getElem?_eq_getElem hlt
      generalize (setsM n)[i] = T at eT
      have hTm := List.mem_of_getElem? eT
      have asc := setsM_asc n T hTm
      have eTake : (setsM n).take (i + 1) = (setsM n).take i ++ [T] := by
        rw [List.take_add_one, eT, Option.toList_some]
      refine ⟨_, rfl, _, rfl, p, A, a, b, c, e, Z, n, T, rfl, hpB.same s2, wf, (hSB.same s2).el i A T ea eT, asc, fun hpos H3 s3 => ?_, fun hneg H3 t xs s3 ht F => ?_⟩
      · refine ⟨_, rfl, rfl, _, rfl, iteF ?_⟩
        have hnv : ¬ Val Z n T := fun z => z hpos
        refine ⟨_, _, kvs, rfl, s2.trans s3, s3 _ _ hd2, by rw [eTake]; exact DK.skip hnv, LK.skip fun hi1 => ?_⟩
        subst hi1
        obtain ⟨r, hr2⟩ := setsM_two n wf.n1
        rw [hr2] at eT
        cases eT
        refine hnv fun z => ?_
        rw [show seg Z.d 0 (([0] : List Nat).headD n) = 0 from rfl] at z
        omega
      · refine ⟨_, rfl, rfl, _, rfl, iteT ?_⟩
        refine ⟨_, rfl, _, rfl, p, t, a, b, c, e, Z, n, xs, rfl, hpB.same (s2.trans s3), wf, ht, F.len, fun H4 s4 => ?_⟩
        have hd4 := s4 _ _ (s3 _ _ hd2)
        have ht4 := ht.same s4
        have s24 := s2.trans (s3.trans s4)
        have hkl : kvs.length ≤ 64 := by
          have h1 := LK.a
          have h2 : (setsM n).length ≤ 64 := by
            rw [setsM_len]
            exact Nat.pow_le_pow_right (by omega) hn
          omega
        refine ⟨_, rfl, _, rfl, d, _, rfl, DPut.t (k := kk xs) hd4 (by rw [kk_kV]; exact ht4) (small1000 (by omega)), ?_⟩
        exact ⟨_, _, _, rfl, hide_upd s24, upd_same, by rw [eTake]; exact DK.put hneg F, LK.put wf DK ⟨T, eT, F⟩⟩
    · subst e'
      rw [List.length_map, hlenA] at DK LK
      rw [List.take_length] at DK
      refine ⟨_, rfl, q H2 d kvs (hB0.trans s2) nd hd2 DK ?_⟩
      have h2 : (setsM n).length ≤ 64 := by
        rw [setsM_len]
        exact Nat.pow_le_pow_right (by omega) hn
      have h3 : 2 ≤ (setsM n).length := by
        obtain ⟨r, hr2⟩ := setsM_two n wf.n1
        rw [hr2]
        exact Nat.le_add_left _ _
      have := LK.b h3
      omega
end
end Lp

/-! _law_least, _law_any_plan. -/
namespace Lp
open PySem PySem.Spec PyProof.Rows L2 LpR
/-- the keys as a list of new or old tuples: what sorted hands on -/
structure KeysAt (Z : Pb) (n : Nat) (H : Hp) (kvs : List (List Key × V)) (cs : List Addr) : Prop where
  ex : ∀ c ∈ cs, ∃ T xs, T ∈ setsM n ∧ Val Z n T ∧ FilOk Z.d n T xs ∧ TI H c xs ∧ valV kvs (kk xs) = some (.int (cpre Z xs n))
  all : ∀ T ∈ setsM n, Val Z n T → ∃ c ∈ cs, ∃ xs, FilOk Z.d n T xs ∧ TI H c xs
  len : cs.length ≤ 64
theorem KeysAt.same {Z : Pb} {n : Nat} {H H' : Hp} {kvs : List (List Key × V)} {cs : List Addr} (h : KeysAt Z n H kvs cs) (s : Same H H') : KeysAt Z n H' kvs cs :=
  ⟨fun c hc => let ⟨T, xs, h1, h2, h3, h4, h5⟩ := h.ex c hc; ⟨T, xs, h1, h2, h3, s _ _ h4, h5⟩, fun T hT hv => let ⟨c, h1, xs, h2, h3⟩ := h.all T hT hv; ⟨c, h1, xs, h2, s _ _ h3⟩, h.len⟩
theorem keysAt_of {Z : Pb} {n : Nat} {H : Hp} {kvs : List (List Key × V)} {bs cs : List Addr} (D : DictOk Z n (setsM n) kvs) (hk : IsKeys H kvs bs) (pm : cs.Perm bs) (hl : kvs.length < 64) : KeysAt Z n H kvs cs := by
  refine ⟨fun c hc => ?_, fun T hT hv => ?_, ?_⟩
  · obtain ⟨e, he, h1⟩ := isKeys_mem hk (pm.mem_iff.mp hc)
    obtain ⟨T, xs, h2, h3, h4, h5, h6⟩ := D.ex e he
    obtain ⟨u, hu⟩ := valV_of he
    rw [h5] at hu h1
    rw [kk_kV] at h1
    rw [D.look hu] at hu
    exact ⟨T, xs, h2, h3, h4, h1, hu⟩
  · obtain ⟨xs, h1, h2⟩ := D.all T hT hv
    obtain ⟨e, he, h3, h4⟩ := valV_mem h2
    obtain ⟨b, hb, h5⟩ := isKeys_all hk he
    rw [h3, kk_kV] at h5
    exact ⟨b, pm.mem_iff.mpr hb, xs, h1, h5⟩
  · have h1 : bs.length = kvs.length := (Paired.length hk).symm
    rw [pm.length_eq, h1]
    omega
theorem val_zero {Z : Pb} {n : Nat} : Val Z n [0] := by
  intro z
  rw [show seg Z.d 0 (([0] : List Nat).headD n) = 0 from rfl] at z
  omega
/-- the least of the keys' costs -/
theorem least_of {Z : Pb} {n : Nat} {H : Hp} {kvs : List (List Key × V)} {cs : List Addr} {m : Int} (h : KeysAt Z n H kvs cs) (h1 : m ∈ cs.map fun c => cpre Z (rdT H c) n) (h2 : ∀ y ∈ cs.map (fun c => cpre Z (rdT H c) n), m ≤ y) : LeastOk Z n m := by
  refine ⟨?_, fun T xs hT hv F => ?_⟩
  · obtain ⟨c, hc, rfl⟩ := List.mem_map.mp h1
    obtain ⟨T, xs, h3, h4, h5, h6, _⟩ := h.ex c hc
    exact ⟨T, xs, h3, h4, h5, by rw [rdT_of h6]⟩
  · obtain ⟨c, hc, ys, h3, h4⟩ := h.all T hT hv
    have := h2 _ (List.mem_map.mpr ⟨c, hc, rfl⟩)
    rw [rdT_of h4, h3.uniq F] at this
    exact this
theorem KeysAt.pos {Z : Pb} {n : Nat} {H : Hp} {kvs : List (List Key × V)} {cs : List Addr} (h : KeysAt Z n H kvs cs) (wf : Wf Z n) : 0 < cs.length := by
  obtain ⟨r, hr⟩ := setsM_two n wf.n1
  obtain ⟨c, hc, _⟩ := h.all [0] (by rw [hr]; exact List.mem_cons_of_mem _ (List.mem_cons_self ..)) val_zero
  exact List.length_pos_of_mem hc
/-- a plan being drawn: periods below t are met, of period t the part L is left -/
structure InOk (ds fs : List Int) (t : Nat) (L : Int) : Prop where
  len : fs.length = ds.length
  nn : ∀ m, m < ds.length → 0 ≤ g fs m
  z : ∀ m, t < m → m < ds.length → g fs m = 0
  sum : fs.sum = (ds.take (t + 1)).sum - L
  pre : ∀ m, m < t → (ds.take (m + 1)).sum ≤ (fs.take (m + 1)).sum
structure OutOk (ds fs : List Int) (t : Nat) : Prop where
  len : fs.length = ds.length
  nn : ∀ m, m < ds.length → 0 ≤ g fs m
  z : ∀ m, t ≤ m → m < ds.length → g fs m = 0
  sum : fs.sum = (ds.take t).sum
  pre : ∀ m, m < t → (ds.take (m + 1)).sum ≤ (fs.take (m + 1)).sum
theorem OutOk.go {ds fs : List Int} {t : Nat} (h : OutOk ds fs t) (ht : t < ds.length) : InOk ds fs t (g ds t) :=
  ⟨h.len, h.nn, fun m h1 h2 => h.z m (Nat.le_of_lt h1) h2, by rw [h.sum, sum_take (g_get ht)]; omega, h.pre⟩
theorem sum_zero : ∀ l : List Int, (∀ x ∈ l, x = 0) → l.sum = 0
  | [], _ => rfl
  | x :: r, h => by
    rw [List.sum_cons, h x (List.mem_cons_self ..), sum_zero r fun y hy => h y (List.mem_cons_of_mem _ hy)]
    rfl
theorem sum_split (l : List Int) (k : Nat) : l.sum = (l.take k).sum + (l.drop k).sum := by
  rw [← List.sum_append, List.take_append_drop]
theorem InOk.done {ds fs : List Int} {t : Nat} (h : InOk ds fs t 0) (ht : t < ds.length) : OutOk ds fs (t + 1) := by
  have h0 : fs.sum = (ds.take (t + 1)).sum := by rw [h.sum]; omega
  refine ⟨h.len, h.nn, fun m h1 h2 => h.z m h1 h2, h0, fun m hm => ?_⟩
  by_cases e : m < t
  · exact h.pre m e
  · have em : m = t := by omega
    subst em
    rw [← h0, sum_split fs (m + 1), sum_zero (fs.drop (m + 1)) fun x hx => ?_]
    · omega
    · obtain ⟨i, hi, rfl⟩ := List.getElem_of_mem hx
      rw [List.length_drop] at hi
      have := h.z (m + 1 + i) (by omega) (by rw [← h.len]; omega)
      unfold g at this
      rw [List.getD_eq_getElem?_getD, List.getElem?_eq_getElem (by omega)] at this
      rw [List.getElem_drop]
      exact this
theorem InOk.step {ds fs : List Int} {t s : Nat} {L p : Int} (h : InOk ds fs t L) (ht : t < ds.length) (hs : s ≤ t) (hp : 0 ≤ p) : InOk ds (fs.set s (g fs s + p)) t (L - p) := by
  have hsl : s < fs.length := by rw [h.len]; omega
  refine ⟨by rw [List.length_set]; exact h.len, fun m hm => ?_, fun m h1 h2 => ?_, ?_, fun m hm => ?_⟩
  · rw [g_set hsl]
    by_cases e : m = s
    · rw [if_pos e]
      have := h.nn s (by rw [← h.len]; exact hsl)
      omega
    · rw [if_neg e]
      exact h.nn m hm
  · rw [g_set hsl, if_neg (by omega)]
    exact h.z m h1 h2
  · rw [sum_set (g_get hsl), h.sum]
    omega
  · have := h.pre m hm
    rw [List.take_set]
    by_cases e : s < m + 1
    · have h1 : (fs.take (m + 1))[s]? = some (g fs s) := by
        rw [List.getElem?_take_of_lt e]
        exact g_get hsl
      rw [sum_set h1]
      omega
    · rw [List.set_eq_of_length_le (by rw [List.length_take]; omega)]
      exact this
theorem OutOk.plan {ds fs : List Int} (h : OutOk ds fs ds.length) : PlanOk ds fs := by
  refine ⟨h.len, fun x hx => ?_, fun i hi => ?_, by rw [h.sum, List.take_length]⟩
  · obtain ⟨i, hi, rfl⟩ := List.getElem_of_mem hx
    have := h.nn i (by rw [← h.len]; exact hi)
    unfold g at this
    rw [List.getD_eq_getElem?_getD, List.getElem?_eq_getElem hi] at this
    exact this
  · have := h.pre i hi
    unfold stk
    omega
section
variable {P : Program} {w : World} {K : PySem.W.Frag} {mg : Str → Option Value} {base : Heap}
def sp_Lleast : Sp := fun vs H Q _ => ∃ (p a b c e : Addr) (Z : Pb) (n : Nat), vs = [.ref p] ∧ PAt H p Z a b c e ∧ Wf Z n ∧ n ≤ 6 ∧ ∀ H' m, Same H H' → LeastOk Z n m → Q (.int m) H'
theorem ok_Lleast (T : Txt K mg) : Ok P w K mg base 4 "_law_least" ["_law_problem_here"] sp_Lleast := by
  obtain ⟨f_Lintervals, fd_Lintervals, G_Lintervals, g_Lintervals, k_Lintervals, b_Lintervals⟩ := ok_Lintervals (P := P) (w := w) (base := base) T
  refine T.d_Lleast.ok fun f fd F => ?_
  refine F.ok sc_Lleast (fun vs H Q E h => ?_) (fun cdv A outer s H vs Q E hr h => ?_)
  · obtain ⟨p, a, b, c, e, Z, n, rfl, _⟩ := h
    rfl
  · obtain ⟨p, a, b, c, e, Z, n, rfl, hp, wf, hn, q⟩ := h
    have hu := hu_of hr
    refine ⟨_, (pss_cons (ps_set (i := 1) sc_Lleast.nd rfl (.inr rfl) (pe_call G_Lintervals (hr.mono (by decide)) (by rfl) g_Lintervals k_Lintervals b_Lintervals .nil pass0 (pa_cons (pv 0) pa_nil)))
      (pss_one (ps_ret (pe_callB (cr_min rfl) (by rfl) T.z_min (by decide +kernel) (pa_cons (pe_lc (own := [("_law_plan", 2)]) (g := gName 2) (tt := tYes) rfl sc_Lleast.nd (pi_list (pe_callB (cr_sortedD rfl) (by rfl) T.z_sorted (by decide +kernel) (pa_cons (pv 1) pa_nil))) (blkOk_by (own := [("_law_plan", 2)]) (N := N_Lleast) (sc := defScope s_Lleast) (by decide +kernel)) (fun _ _ _ _ _ => pg_name (i := 2) sc_Lleast.nd rfl (Or.inl rfl)) (fun _ _ _ _ _ => pts_nil) (fun _ _ _ _ _ => (pe_dget hu (pv 1) (pv 2) (fun _ _ => rfl)))) pa_nil))))), ?_⟩
    refine ⟨_, rfl, p, a, b, c, e, Z, n, rfl, hp, wf, hn, fun H1 d kvs s1 nd hd DK hl => ?_⟩
    refine ⟨_, rfl, d, kvs, n, 100000, rfl, hd, hl, wf.n1, fun e he => DK.key wf he, fun o bs cs no hk pm => ⟨o, rfl, ⟨_, SqL.of upd_same⟩, fun D hD => ?_⟩⟩
    have s2 := same_upd (H := H1) (p := o) (o := .lst (cs.map V.ref)) no
    have KA := (keysAt_of DK hk pm hl).same s2
    refine lc_list_ints (fun c => cpre Z (rdT (upd H1 o (.lst (cs.map V.ref))) c) n) upd_same (by have := KA.len; omega) hD (fun c H3 R hc s3 k => ⟨rfl, ?_⟩) (fun H3 s3 hD3 => ?_)
    · obtain ⟨T, xs, h1, h2, h3, h4, h5⟩ := KA.ex c hc
      refine ⟨_, rfl, _, rfl, d, _, rfl, ?_, k H3 (Same.refl _)⟩
      rw [rdT_of h4, ← h5]
      exact DGet.t (k := kk xs) (s3 _ _ (s2 _ _ hd)) (by rw [kk_kV]; exact s3 _ _ h4)
    · refine ⟨D, _, rfl, SqL.of hD3, by rw [List.length_map]; exact KA.pos wf, fun m hm hle => ?_⟩
      exact q H3 m (s1.trans (s2.trans s3)) (least_of KA hm hle)
def sp_Lanyplan (K : PySem.W.Frag) : Sp := fun vs H Q _ => ∃ (r a q : Addr) (ns ds : List Int), vs = [.ref r, .ref q] ∧ RowAt K H r a ns ∧ TI H q ds ∧ ds.length ≤ 12 ∧ (∀ x ∈ ds, 0 ≤ x ∧ x ≤ 999) ∧
  ∀ H' t xs, SameX r H H' → RowAt K H' r a ns → TI H' t xs → PlanOk ds xs → Q (.ref t) H'
theorem ok_Lanyplan (T : Txt K mg) : Ok P w K mg base 2 "_law_any_plan" ["_law_row_here", "_law_demands"] (sp_Lanyplan K) := by
  obtain ⟨f_Ltaken, fd_Ltaken, G_Ltaken, g_Ltaken, k_Ltaken, b_Ltaken⟩ := ok_Ltaken (P := P) (w := w) (base := base) T
  refine T.d_Lanyplan.ok fun f fd F => ?_
  refine F.ok sc_Lanyplan (fun vs H Q E h => ?_) (fun cdv A outer s H vs Q E hr h => ?_)
  · obtain ⟨r, a, q, ns, ds, rfl, _⟩ := h
    rfl
  · obtain ⟨r, a, q, ns, ds, rfl, R, hq, h12, hb, k⟩ := h
    refine ⟨_, (pss_cons (ps_set (i := 2) sc_Lanyplan.nd rfl (.inl rfl) (pe_op op_rep (pe_lst (pa_cons pe_int pa_nil)) (pe_callB call_len_seq (by rfl) T.z_len PySem.boot_len (pa_cons (pv 1) pa_nil))))
      (pss_cons (ps_for PassesOwn.never rfl (pi_range1 (by rfl) T.z_range (pa_cons (pe_callB call_len_seq (by rfl) T.z_len PySem.boot_len (pa_cons (pv 1) pa_nil)) pa_nil)) (pg_name (i := 3) sc_Lanyplan.nd rfl (.inl rfl))
        (pss_cons (ps_set (i := 4) sc_Lanyplan.nd rfl (.inl rfl) (pe_ix ix_tup (pv 1) (pv 3) (fun _ _ => rfl)))
          (pss_one (ps_for PassesOwn.never rfl (pi_range1 (by rfl) T.z_range (pa_cons pe_int pa_nil)) (pg_name (i := 5) sc_Lanyplan.nd rfl (.inl rfl))
            (pss_cons (ps_set (i := 6) sc_Lanyplan.nd rfl (.inl rfl) (pe_ifExp (pt_cmpR op_eq (pv 5) pe_int (nomark _)) (pv 4) (pe_call G_Ltaken (hr.mono (by decide)) (by rfl) g_Ltaken k_Ltaken b_Ltaken .nil pass0 (pa_cons (pv 0) (pa_cons (pe_op op_add (pv 4) pe_int) pa_nil)))))
              (pss_cons (ps_set (i := 7) sc_Lanyplan.nd rfl (.inl rfl) (pe_ifExp (pt_cmpR op_eq (pe_call G_Ltaken (hr.mono (by decide)) (by rfl) g_Ltaken k_Ltaken b_Ltaken .nil pass0 (pa_cons (pv 0) (pa_cons pe_int pa_nil))) pe_int (nomark _)) (pe_call G_Ltaken (hr.mono (by decide)) (by rfl) g_Ltaken k_Ltaken b_Ltaken .nil pass0 (pa_cons (pv 0) (pa_cons (pe_op op_add (pv 3) pe_int) pa_nil))) (pv 3)))
              (pss_cons (ps_asg (pe_op op_add (pe_ix ix_list (pv 2) (pv 7) (fun _ _ => rfl)) (pv 6)) (pg_sub (pv 2) (pv 7) set_list))
              (pss_one (ps_set (i := 4) sc_Lanyplan.nd rfl (.inl rfl) (pe_op op_sub (pv 4) (pv 6)))))))))))
      (pss_one (ps_ret (pe_callTy call_tuple_of (by rfl) T.z_tuple (by decide +kernel) (pa_cons (pv 2) pa_nil)))))), ?_⟩
    refine ⟨len1000 (by show 1 ≤ 1000; omega), fun o1 no1 => ?_⟩
    have s1 := same_upd (H := H) (p := o1) (o := .lst [.int 0]) no1
    refine ⟨_, rfl, q, _, rfl, .inr (SqT.of (hq.same s1)), ?_⟩
    rw [List.length_map]
    refine ⟨o1, _, _, rfl, rfl, upd_same, by omega, by omega, len1000 (by show 1 * _ ≤ 1000; rw [Int.toNat_natCast]; omega), fun o no => ?_⟩
    rw [Int.toNat_natCast, rep_flat]
    generalize hHb : upd H o1 (.lst [.int 0]) = Hb at s1 no
    have s2 := same_upd (H := Hb) (p := o) (o := .lst ((List.replicate ds.length (0 : Int)).map V.int)) no
    have Rb := R.same s1
    have hqb := hq.same s1
    have hor : o ≠ r := by
      obtain ⟨ys, hr⟩ := Rb.lst
      exact (ne_of_none hr no).symm
    refine ⟨_, rfl, q, _, rfl, .inr (SqT.of (hqb.same s2)), _, rfl, ?_⟩
    rw [List.length_map]
    refine ⟨by omega, by omega, ?_⟩
    rw [Int.toNat_natCast]
    refine for_rangeN (lo := 0) rfl (fun t σ H2 => ∃ y3 y4 y5 y6 y7 fs, σ = [some (.ref r), some (.ref q), some (.ref o), y3, y4, y5, y6, y7] ∧ SameX r Hb H2 ∧ RowAt K H2 r a ns ∧ H2 o = some (.lst (fs.map V.int)) ∧ OutOk ds fs t)
      ⟨none, none, none, none, none, List.replicate ds.length 0, rfl, Same.x s2, Rb.same s2, upd_same, ?_⟩ (fun t σ H2 ht ⟨y3, y4, y5, y6, y7, fs, e', x2, R2, ho, OK⟩ => ?_) (fun σ H2 ⟨y3, y4, y5, y6, y7, fs, e', x2, R2, ho, OK⟩ => ?_)
    · have gz : ∀ m, m < ds.length → g (List.replicate ds.length 0) m = 0 := fun m hm => by
        unfold g
        rw [List.getD_eq_getElem?_getD, List.getElem?_replicate, if_pos hm]
        rfl
      exact ⟨List.length_replicate .., fun m hm => by rw [gz m hm]; exact Int.le_refl 0, fun m _ hm => gz m hm, sum_zero _ fun x hx => (List.mem_replicate.mp hx).2, fun m hm => absurd hm (Nat.not_lt_zero _)⟩
    · subst e'
      rw [Nat.zero_add]
      have hq2 := hqb.keepR Rb x2
      have bt := hb _ (g_mem ht)
      refine ⟨_, rfl, _, rfl, q, _, _, _, rfl, rfl, SqT.of hq2, g_at ht, ?_⟩
      refine ⟨_, rfl, by omega, by omega, ?_⟩
      refine for_rangeN (lo := 0) rfl (fun j σ H3 => ∃ y5 y6 y7 fs L, σ = [some (.ref r), some (.ref q), some (.ref o), some (.int (t : Int)), some (.int L), y5, y6, y7] ∧ SameX r Hb H3 ∧ RowAt K H3 r a ns ∧ H3 o = some (.lst (fs.map V.int)) ∧ InOk ds fs t L ∧ 0 ≤ L ∧ L ≤ 999 ∧ (j = 2 → L = 0))
        ⟨y5, y6, y7, fs, _, rfl, x2, R2, ho, OK.go ht, bt.1, bt.2, fun h => by omega⟩ (fun j σ H3 hj ⟨y5, y6, y7, fs, L, e', x3, R3, ho3, OK3, hL0, hL9, _⟩ => ?_) (fun σ H3 ⟨y5, y6, y7, fs, L, e', x3, R3, ho3, OK3, hL0, hL9, hj2⟩ => ?_)
      · subst e'
        have hj' : j < 2 := hj
        -- behind part: start, the store, what is left
        have fin : ∀ (H4 : Hp) (p : Int), SameX r Hb H4 → RowAt K H4 r a ns → H4 o = some (.lst (fs.map V.int)) → 0 ≤ p → p ≤ L → (j = 1 → p = L) → ∀ (s : Nat), s ≤ t → ∃ x5 x6 x7 fs' L', ([some (.ref r), some (.ref q), some (.ref o), some (.int (t : Int)), some (.int (L - p)), some (.int ((0 + j : Nat) : Int)), some (.int p), some (.int (s : Int))] : L2.St) = [some (.ref r), some (.ref q), some (.ref o), some (.int (t : Int)), some (.int L'), x5, x6, x7] ∧ SameX r Hb (upd H4 o (.lst ((fs.map V.int).set s (.int (g fs s + p))))) ∧ RowAt K (upd H4 o (.lst ((fs.map V.int).set s (.int (g fs s + p))))) r a ns ∧ (upd H4 o (.lst ((fs.map V.int).set s (.int (g fs s + p))))) o = some (.lst (fs'.map V.int)) ∧ InOk ds fs' t L' ∧ 0 ≤ L' ∧ L' ≤ 999 ∧ (j + 1 = 2 → L' = 0) := by
          intro H4 p x4 R4 ho4 hp0 hpL hp1 s hs
          obtain ⟨i4, j4, d4, hr4, hb4⟩ := R4.ex
          refine ⟨_, _, _, fs.set s (g fs s + p), _, rfl, fun b' z hz hbr => ?_, ⟨⟨i4, j4, d4, ?_, hb4⟩, seq_keep ho4 sameX_upd R4.sq⟩, ?_, OK3.step ht hs hp0, by omega, by omega, fun h => ?_⟩
          · rw [upd_ne (ne_of_none hz no)]
            exact x4 _ _ hz hbr
          · rw [upd_ne hor.symm]
            exact hr4
          · rw [upd_same, List.map_set]
          · rw [hp1 (by omega)]
            omega
        have storeR : ∀ s : Nat, s ≤ t → atI (fs.map V.int) (s : Int) = some (.int (g fs s)) ∧ ixN (fs.map V.int).length (s : Int) = some s := fun s hs => by
          have hsl : s < fs.length := by rw [OK3.len]; omega
          exact ⟨g_at hsl, ixN_nat (by rw [List.length_map]; exact hsl)⟩
        refine ⟨_, rfl, rfl, _, rfl, ite2 (fun hz => ?_) (fun hz => ?_)⟩
        · refine ⟨_, rfl, ?_⟩
          refine ⟨_, rfl, r, a, ns, 2, rfl, R3, by omega, by omega, fun H5 u x5 R5 u0 u1 => ⟨rfl, _, rfl, ite2 (fun hu => ?_) (fun hu => ?_)⟩⟩
          · refine ⟨_, rfl, _, rfl, _, _, rfl, rfl, r, a, ns, (t : Int) + 1, rfl, R5, by omega, by omega, fun H6 sv x6 R6 s0 s1' => ?_⟩
            obtain ⟨s, rfl⟩ : ∃ s : Nat, sv = (s : Int) := ⟨sv.toNat, by omega⟩
            have hs : s ≤ t := by omega
            have ho6 := x6 _ _ (x5 _ _ ho3 hor) hor
            exact ⟨_, rfl, _, rfl, o, _, _, _, rfl, rfl, SqL.of ho6, (storeR s hs).1, _, rfl, _, _, rfl, rfl, _, rfl, _, rfl, o, _, _, s, rfl, rfl, ho6, (storeR s hs).2, _, rfl, _, rfl, _, _, rfl, rfl, fin H6 L (x3.trans (x5.trans x6)) R6 ho6 hL0 (Int.le_refl L) (fun _ => rfl) s hs⟩
          · have ho5 := x5 _ _ ho3 hor
            refine ⟨_, rfl, ?_⟩
            exact ⟨_, rfl, _, rfl, o, _, _, _, rfl, rfl, SqL.of ho5, (storeR t (Nat.le_refl t)).1, _, rfl, _, _, rfl, rfl, _, rfl, _, rfl, o, _, _, t, rfl, rfl, ho5, (storeR t (Nat.le_refl t)).2, _, rfl, _, rfl, _, _, rfl, rfl, fin H5 L (x3.trans x5) R5 ho5 hL0 (Int.le_refl L) (fun _ => rfl) t (Nat.le_refl t)⟩
        · have hj1 : j ≠ 1 := fun z => hz (decide_eq_true (by subst z; rfl))
          refine ⟨_, rfl, _, rfl, _, _, rfl, rfl, r, a, ns, L + 1, rfl, R3, by omega, by omega, fun H4 p x4 R4 p0 p1 => ?_⟩
          have ho4 := x4 _ _ ho3 hor
          have hpL : p ≤ L := by omega
          refine ⟨_, rfl, r, a, ns, 2, rfl, R4, by omega, by omega, fun H5 u x5 R5 u0 u1 => ⟨rfl, _, rfl, ite2 (fun hu => ?_) (fun hu => ?_)⟩⟩
          · refine ⟨_, rfl, _, rfl, _, _, rfl, rfl, r, a, ns, (t : Int) + 1, rfl, R5, by omega, by omega, fun H6 sv x6 R6 s0 s1' => ?_⟩
            obtain ⟨s, rfl⟩ : ∃ s : Nat, sv = (s : Int) := ⟨sv.toNat, by omega⟩
            have hs : s ≤ t := by omega
            have ho6 := x6 _ _ (x5 _ _ ho4 hor) hor
            exact ⟨_, rfl, _, rfl, o, _, _, _, rfl, rfl, SqL.of ho6, (storeR s hs).1, _, rfl, _, _, rfl, rfl, _, rfl, _, rfl, o, _, _, s, rfl, rfl, ho6, (storeR s hs).2, _, rfl, _, rfl, _, _, rfl, rfl, fin H6 p ((x3.trans x4).trans (x5.trans x6)) R6 ho6 p0 hpL (fun z => absurd z hj1) s hs⟩
          · have ho5 := x5 _ _ ho4 hor
            refine ⟨_, rfl, ?_⟩
            exact ⟨_, rfl, _, rfl, o, _, _, _, rfl, rfl, SqL.of ho5, (storeR t (Nat.le_refl t)).1, _, rfl, _, _, rfl, rfl, _, rfl, _, rfl, o, _, _, t, rfl, rfl, ho5, (storeR t (Nat.le_refl t)).2, _, rfl, _, rfl, _, _, rfl, rfl, fin H5 p ((x3.trans x4).trans x5) R5 ho5 p0 hpL (fun z => absurd z hj1) t (Nat.le_refl t)⟩
      · subst e'
        have hL := hj2 rfl
        subst hL
        exact ⟨_, _, _, _, _, fs, rfl, x3, R3, ho3, OK3.done ht⟩
    · subst e'
      refine ⟨_, rfl, o, _, rfl, .inl ⟨SqL.of ho, fun t nt => ?_⟩⟩
      have s3 := same_upd (H := H2) (p := t) (o := .tup (fs.map V.int)) nt
      exact k _ t fs ((Same.x s1).trans (x2.trans (Same.x s3))) (R2.same s3) upd_same OK.plan
end
end Lp

/-! The mathematics: cut paths, lower and upper bounds, the range of setups. No program here. -/
namespace Lp
/-! ### segments, keeping, lots -/
theorem seg_self (l : List Int) (a : Nat) : seg l a a = 0 := by
  unfold seg
  rw [Nat.sub_self, List.take_zero]
  rfl
theorem seg_succ {l : List Int} {a b : Nat} (h : a ≤ b) (hb : b < l.length) : seg l a (b + 1) = seg l a b + g l b := by
  unfold seg
  have e : b + 1 - a = (b - a) + 1 := by omega
  have h1 : (l.drop a)[b - a]? = some (g l b) := by
    rw [List.getElem?_drop, show a + (b - a) = b by omega]
    exact g_get hb
  rw [e, L2.sum_take h1]
theorem seg_add {l : List Int} {a m b : Nat} (h1 : a ≤ m) (h2 : m ≤ b) (hb : b ≤ l.length) : seg l a b = seg l a m + seg l m b := by
  induction b with
  | zero =>
    have : m = 0 := by omega
    subst this
    rw [seg_self]
    omega
  | succ b ih =>
    by_cases e : m = b + 1
    · subst e
      rw [seg_self]
      omega
    · rw [seg_succ (by omega) (by omega), seg_succ (l := l) (a := m) (by omega) (by omega), ih (by omega) (by omega)]
      omega
theorem kept_succ {Z : Pb} {n a b : Nat} (wf : Wf Z n) (h : a ≤ b) (hb : b < n) : kept Z a (b + 1) = kept Z a b + g Z.h b := by
  unfold kept
  rw [seg_succ h (by rw [wf.lh]; exact hb)]
  omega
theorem kept_self {Z : Pb} {a : Nat} : kept Z a a = g Z.u a := by
  unfold kept
  rw [seg_self]
  omega
theorem lotv_self {Z : Pb} {a : Nat} : lotv Z a a = 0 := by
  unfold lotv
  rw [Nat.sub_self]
  rfl
theorem lotv_succ {Z : Pb} {a b : Nat} (h : a ≤ b) : lotv Z a (b + 1) = lotv Z a b + kept Z a b * g Z.d b := by
  unfold lotv
  have e : b + 1 - a = (b - a) + 1 := by omega
  rw [e, List.range_succ, List.map_append, List.sum_append]
  show _ + (kept Z a (a + (b - a)) * g Z.d (a + (b - a)) + 0) = _
  rw [show a + (b - a) = b by omega]
  omega
theorem kept_nonneg {Z : Pb} {n a b : Nat} (wf : Wf Z n) (ha : a < n) : 0 ≤ kept Z a b := by
  unfold kept
  have h1 := wf.u0 ha
  have h2 := seg_nonneg (fun x hx => (wf.bh x hx).1) a b
  omega
theorem lotv_nonneg {Z : Pb} {n a b : Nat} (wf : Wf Z n) (ha : a < n) (hab : a ≤ b) (hb : b ≤ n) : 0 ≤ lotv Z a b := by
  induction b with
  | zero =>
    have : a = 0 := by omega
    subst this
    rw [lotv_self]
    exact Int.le_refl 0
  | succ b ih =>
    by_cases e : a = b + 1
    · subst e
      rw [lotv_self]
      exact Int.le_refl 0
    · rw [lotv_succ (by omega)]
      have h1 := ih (by omega) (by omega)
      have h2 := Int.mul_nonneg (kept_nonneg wf ha (b := b)) (wf.d0 (i := b) (by omega)).1
      omega
theorem Wf.s0 {Z : Pb} {n i : Nat} (wf : Wf Z n) (hi : i < n) : 0 ≤ g Z.s i := wf.bs _ (g_mem (by rw [wf.ls]; exact hi))
theorem lotc_le {Z : Pb} {n a b : Nat} (wf : Wf Z n) (ha : a < n) (hab : a ≤ b) (hb : b ≤ n) : lotc Z a b ≤ g Z.s a + lotv Z a b := by
  unfold lotc
  have h1 := wf.s0 ha
  have h2 := lotv_nonneg wf ha hab hb
  split <;> omega
theorem lotc_nonneg {Z : Pb} {n a b : Nat} (wf : Wf Z n) (ha : a < n) (hab : a ≤ b) (hb : b ≤ n) : 0 ≤ lotc Z a b := by
  unfold lotc
  have h1 := wf.s0 ha
  have h2 := lotv_nonneg wf ha hab hb
  split <;> omega

/-! ### paths of cuts -/
inductive Path (Z : Pb) (A : Nat → Nat → Prop) (a : Nat) : Nat → Int → Prop
  | nil : Path Z A a a 0
  | snoc {s e : Nat} {c : Int} : Path Z A a s c → s < e → A s e → Path Z A a e (c + lotc Z s e)
theorem Path.le {Z : Pb} {A : Nat → Nat → Prop} {a b : Nat} {c : Int} (h : Path Z A a b c) : a ≤ b := by
  induction h with
  | nil => exact Nat.le_refl _
  | snoc _ h2 _ ih => omega
theorem Path.mono {Z : Pb} {A B : Nat → Nat → Prop} {a b : Nat} {c : Int} (h : Path Z A a b c) (hAB : ∀ s e, s < e → e ≤ b → A s e → B s e) : Path Z B a b c := by
  induction h with
  | nil => exact .nil
  | snoc h1 h2 h3 ih => exact .snoc (ih fun s e hs he => hAB s e hs (by omega)) h2 (hAB _ _ h2 (Nat.le_refl _) h3)
theorem Path.join {Z : Pb} {A : Nat → Nat → Prop} {a m b : Nat} {c c' : Int} (h1 : Path Z A a m c) (h2 : Path Z A m b c') : Path Z A a b (c + c') := by
  induction h2 with
  | nil =>
    rw [Int.add_zero]
    exact h1
  | snoc _ h3 h4 ih =>
    rw [← Int.add_assoc]
    exact .snoc ih h3 h4
abbrev All : Nat → Nat → Prop := fun _ _ => True
/-- the same lots in two problems -/
theorem Path.congr {Z Y : Pb} {A B : Nat → Nat → Prop} {a b : Nat} {c : Int} (h : Path Z A a b c) (hAB : ∀ s e, a ≤ s → s < e → e ≤ b → A s e → B s e ∧ lotc Y s e = lotc Z s e) : Path Y B a b c := by
  induction h with
  | nil => exact .nil
  | @snoc s e c h1 h2 h3 ih =>
    obtain ⟨h4, h5⟩ := hAB s e h1.le h2 (Nat.le_refl _) h3
    rw [← h5]
    exact .snoc (ih fun s e hs hse he => hAB s e hs hse (by omega)) h2 h4
/-- a table of least costs -/
structure Dp (Z : Pb) (n : Nat) (A : Nat → Nat → Prop) (f : Nat → Option Int) : Prop where
  zero : f 0 = some 0
  ex : ∀ e v, 1 ≤ e → e ≤ n → f e = some v → ∃ s u, s < e ∧ f s = some u ∧ A s e ∧ v = u + lotc Z s e
  le : ∀ e s u, e ≤ n → s < e → f s = some u → A s e → ∃ v, f e = some v ∧ v ≤ u + lotc Z s e
theorem Dp.below {Z : Pb} {n : Nat} {A : Nat → Nat → Prop} {f : Nat → Option Int} (D : Dp Z n A f) {e : Nat} {c : Int} (h : Path Z A 0 e c) (he : e ≤ n) : ∃ v, f e = some v ∧ v ≤ c := by
  induction h with
  | nil => exact ⟨0, D.zero, Int.le_refl 0⟩
  | @snoc s e c h1 h2 h3 ih =>
    obtain ⟨u, hu, hle⟩ := ih (by omega)
    obtain ⟨v, hv, hle2⟩ := D.le e s u he h2 hu h3
    exact ⟨v, hv, by omega⟩
theorem Dp.path {Z : Pb} {n : Nat} {A : Nat → Nat → Prop} {f : Nat → Option Int} (D : Dp Z n A f) : ∀ (e : Nat) (v : Int), e ≤ n → f e = some v → Path Z A 0 e v := by
  intro e
  induction e using Nat.strongRecOn with
  | _ e ih =>
    intro v he hv
    by_cases h0 : e = 0
    · subst h0
      rw [D.zero] at hv
      cases hv
      exact .nil
    · obtain ⟨s, u, h1, h2, h3, rfl⟩ := D.ex e v (by omega) he hv
      exact .snoc (ih s h1 u (by omega) h2) h1 h3
theorem StOk.dp {Z : Pb} {t : List Int} {n : Nat} (h : StOk Z t n) : Dp Z n All fun e => some (g t e) :=
  ⟨by rw [h.zero], fun e v h1 h2 h3 => by
    obtain ⟨s, h4, h5⟩ := h.ex e h1 h2
    exact ⟨s, g t s, h4, rfl, trivial, by rw [← h5]; exact (Option.some.inj h3).symm⟩, fun e s u h1 h2 h3 _ => ⟨_, rfl, by rw [← Option.some.inj h3]; exact h.le e s h1 h2⟩⟩
/-- no lot with a demand starts at k -/
abbrev Off (Z : Pb) (k : Nat) : Nat → Nat → Prop := fun s e => s ≠ k ∨ seg Z.d s e = 0
theorem WtOk.dp {Z : Pb} {k n : Nat} {t : List (Option Int)} (h : WtOk Z k t n) : Dp Z n (Off Z k) (ot t) := ⟨h.zero, h.ex, h.le⟩

/-! ### another setup, the tail -/
theorem g_setS {Z : Pb} {n k i : Nat} {S : Int} (wf : Wf Z n) (hk : k < n) : g (setS Z k S).s i = if i = k then S else g Z.s i := by
  show g (Z.s.take k ++ [S] ++ Z.s.drop (k + 1)) i = _
  have hl : (Z.s.take k).length = k := by rw [List.length_take, wf.ls]; omega
  unfold g
  rw [List.getD_eq_getElem?_getD, List.getD_eq_getElem?_getD]
  by_cases h1 : i < k
  · rw [if_neg (by omega), List.append_assoc, List.getElem?_append_left (by rw [hl]; exact h1), List.getElem?_take_of_lt h1]
  · by_cases h2 : i = k
    · subst h2
      rw [if_pos rfl, List.append_assoc, List.getElem?_append_right (by rw [hl]; exact Nat.le_refl _), hl, Nat.sub_self]
      rfl
    · rw [if_neg h2, List.getElem?_append_right (by rw [List.length_append, hl]; show k + 1 ≤ i; omega), List.length_append, hl, List.getElem?_drop]
      rw [show k + 1 + (i - (k + [S].length)) = i by show k + 1 + (i - (k + 1)) = i; omega]
theorem lotv_setS {Z : Pb} {k : Nat} {S : Int} (a b : Nat) : lotv (setS Z k S) a b = lotv Z a b := rfl
theorem lotc_ne {Z : Pb} {n k s e : Nat} {S : Int} (wf : Wf Z n) (hk : k < n) (h : s ≠ k ∨ seg Z.d s e = 0) : lotc (setS Z k S) s e = lotc Z s e := by
  unfold lotc
  show (if seg Z.d s e = 0 then 0 else g (setS Z k S).s s + lotv Z s e) = _
  rw [g_setS wf hk]
  by_cases h0 : seg Z.d s e = 0
  · rw [if_pos h0, if_pos h0]
  · rw [if_neg h0, if_neg h0]
    rcases h with h | h
    · rw [if_neg h]
    · exact absurd h h0
theorem lotc_k {Z : Pb} {n k e : Nat} {S : Int} (wf : Wf Z n) (hk : k < n) (h : seg Z.d k e ≠ 0) : lotc (setS Z k S) k e = S + lotv Z k e := by
  unfold lotc
  show (if seg Z.d k e = 0 then 0 else g (setS Z k S).s k + lotv Z k e) = _
  rw [if_neg h, g_setS wf hk, if_pos rfl]
theorem seg_tail (l : List Int) (a s e : Nat) : seg (l.drop a) s e = seg l (a + s) (a + e) := by
  unfold seg
  rw [List.drop_drop, show a + e - (a + s) = e - s by omega]
theorem g_tail (l : List Int) (a i : Nat) : g (l.drop a) i = g l (a + i) := by
  unfold g
  rw [List.getD_eq_getElem?_getD, List.getD_eq_getElem?_getD, List.getElem?_drop]
theorem kept_tail {Z : Pb} (a s e : Nat) : kept (tailP Z a) s e = kept Z (a + s) (a + e) := by
  show g (Z.u.drop a) s + seg (Z.h.drop a) s e = _
  rw [g_tail, seg_tail]
  rfl
theorem lotv_tail {Z : Pb} (a s e : Nat) : lotv (tailP Z a) s e = lotv Z (a + s) (a + e) := by
  unfold lotv
  rw [show a + e - (a + s) = e - s by omega]
  congr 1
  refine List.map_congr_left fun i _ => ?_
  show kept (tailP Z a) s (s + i) * g (Z.d.drop a) (s + i) = kept Z (a + s) (a + s + i) * g Z.d (a + s + i)
  rw [kept_tail, g_tail, Nat.add_assoc]
theorem lotc_tail {Z : Pb} (a s e : Nat) : lotc (tailP Z a) s e = lotc Z (a + s) (a + e) := by
  unfold lotc
  rw [lotv_tail]
  show (if seg (Z.d.drop a) s e = 0 then 0 else g (Z.s.drop a) s + _) = _
  rw [seg_tail, g_tail]
theorem path_up {Z : Pb} {a m : Nat} {c : Int} (h : Path (tailP Z a) All 0 m c) : Path Z All a (a + m) c := by
  induction h with
  | nil => exact .nil
  | @snoc s e c h1 h2 h3 ih =>
    rw [lotc_tail]
    exact .snoc ih (by omega) trivial
theorem path_down {Z : Pb} {a b : Nat} {c : Int} (h : Path Z All a b c) : Path (tailP Z a) All 0 (b - a) c := by
  induction h with
  | nil =>
    rw [Nat.sub_self]
    exact .nil
  | @snoc s e c h1 h2 h3 ih =>
    have hs := h1.le
    have e1 : lotc Z s e = lotc (tailP Z a) (s - a) (e - a) := by
      rw [lotc_tail, show a + (s - a) = s by omega, show a + (e - a) = e by omega]
    rw [e1]
    exact .snoc ih (by omega) trivial
theorem rest_path {Z : Pb} {n e : Nat} {B : Int} (h : Rest Z n e B) : Path Z All e n B := by
  rcases h with ⟨rfl, rfl⟩ | ⟨h1, tb, h2, rfl⟩
  · exact .nil
  · have := path_up (h2.dp.path (n - e) _ (Nat.le_refl _) rfl)
    rw [show e + (n - e) = n by omega] at this
    exact this
theorem rest_below {Z : Pb} {n e : Nat} {B c : Int} (h : Rest Z n e B) (p : Path Z All e n c) : B ≤ c := by
  rcases h with ⟨rfl, rfl⟩ | ⟨h1, tb, h2, rfl⟩
  · have : ∀ {b : Nat} {c : Int}, Path Z All e b c → b = e → 0 ≤ c := by
      intro b c h
      induction h with
      | nil => intro _; exact Int.le_refl 0
      | snoc h1 h2 _ _ =>
        intro hb
        have := h1.le
        omega
    exact this p rfl
  · obtain ⟨v, hv, hle⟩ := h2.dp.below (path_down p) (Nat.le_refl _)
    rw [← Option.some.inj hv] at hle
    exact hle
/-- the two kinds of paths: with a lot at k, and without one -/
theorem path_split {Z : Pb} {n k e : Nat} {S c : Int} (wf : Wf Z n) (hk : k < n) (h : Path (setS Z k S) All 0 e c) (he : e ≤ n) :
    Path Z (Off Z k) 0 e c ∨ ∃ e' c1 c2, k < e' ∧ e' ≤ e ∧ 0 < seg Z.d k e' ∧ Path Z All 0 k c1 ∧ Path Z All e' e c2 ∧ c = c1 + (S + lotv Z k e') + c2 := by
  induction h with
  | nil => exact .inl .nil
  | @snoc s e c h1 h2 h3 ih =>
    rcases ih (by omega) with p | ⟨e', c1, c2, q1, q2, q3, q4, q5, rfl⟩
    · by_cases ho : s ≠ k ∨ seg Z.d s e = 0
      · rw [lotc_ne wf hk ho]
        exact .inl (.snoc p h2 ho)
      · have hs : s = k := by
          refine Classical.byContradiction fun z => ho (.inl z)
        subst hs
        have h0 : seg Z.d s e ≠ 0 := fun z => ho (.inr z)
        have hp := wf.segd s e
        refine .inr ⟨e, c, 0, h2, Nat.le_refl _, by omega, p.mono fun _ _ _ _ _ => trivial, .nil, ?_⟩
        rw [lotc_k wf hk h0]
        omega
    · have hsk : s ≠ k := by
        have := q2
        omega
      rw [lotc_ne wf hk (.inl hsk)]
      exact .inr ⟨e', c1, c2 + lotc Z s e, q1, by omega, q3, q4, .snoc q5 h2 trivial, by omega⟩
end Lp

/-! The mathematics, second part: what plans cost at least, what start sets cost. -/
namespace Lp
/-- the stock ahead of a period -/
def sbf (d : List Int) (x : Nat → Int) : Nat → Int
  | 0 => 0
  | t + 1 => sbf d x t + x t - g d t
/-- the cost of the periods below t -/
def cf (Z : Pb) (x : Nat → Int) : Nat → Int
  | 0 => 0
  | t + 1 => cf Z x t + (g Z.h t * sbf Z.d x (t + 1) + g Z.u t * x t) + (if 0 < x t then g Z.s t else 0)
theorem sbf_congr {d : List Int} {x y : Nat → Int} : ∀ {t : Nat}, (∀ i, i < t → x i = y i) → sbf d x t = sbf d y t
  | 0, _ => rfl
  | t + 1, h => by
    show sbf d x t + x t - g d t = sbf d y t + y t - g d t
    rw [sbf_congr fun i hi => h i (by omega), h t (by omega)]
theorem cf_congr {Z : Pb} {x y : Nat → Int} : ∀ {t : Nat}, (∀ i, i < t → x i = y i) → cf Z x t = cf Z y t
  | 0, _ => rfl
  | t + 1, h => by
    show cf Z x t + (g Z.h t * sbf Z.d x (t + 1) + g Z.u t * x t) + (if 0 < x t then g Z.s t else 0) = _
    rw [cf_congr fun i hi => h i (by omega), h t (by omega), sbf_congr h]
    rfl
theorem sbf_take {d xs : List Int} : ∀ {t : Nat}, t ≤ d.length → t ≤ xs.length → sbf d (g xs) t = (xs.take t).sum - (d.take t).sum
  | 0, _, _ => by
    rw [List.take_zero, List.take_zero]
    rfl
  | t + 1, h1, h2 => by
    show sbf d (g xs) t + g xs t - g d t = _
    rw [sbf_take (by omega) (by omega), L2.sum_take (g_get h2), L2.sum_take (g_get h1)]
    omega
theorem cpre_cf {Z : Pb} {xs : List Int} {n : Nat} (wf : Wf Z n) (hl : xs.length = n) : ∀ {t : Nat}, t ≤ n → cpre Z xs t = cf Z (g xs) t
  | 0, _ => rfl
  | t + 1, h => by
    have e : stk Z.d xs t = sbf Z.d (g xs) (t + 1) := (sbf_take (by rw [wf.ld]; exact h) (by rw [hl]; exact h)).symm
    show cpre Z xs t + (g Z.h t * stk Z.d xs t + g Z.u t * g xs t) + (if 0 < g xs t then g Z.s t else 0) = _
    rw [cpre_cf wf hl (by omega), e]
    rfl
/-- a plan as a function -/
structure FPlan (Z : Pb) (n : Nat) (x : Nat → Int) : Prop where
  nn : ∀ i, i < n → 0 ≤ x i
  st : ∀ t, t ≤ n → 0 ≤ sbf Z.d x t
  tot : sbf Z.d x n = 0
theorem PlanOk.f {Z : Pb} {n : Nat} {xs : List Int} (wf : Wf Z n) (po : PlanOk Z.d xs) : FPlan Z n (g xs) := by
  have hl : xs.length = n := by rw [po.len, wf.ld]
  refine ⟨fun i hi => po.nn _ (g_mem (by rw [hl]; exact hi)), fun t ht => ?_, ?_⟩
  · cases t with
    | zero => exact Int.le_refl 0
    | succ t =>
      rw [sbf_take (by rw [wf.ld]; exact ht) (by rw [hl]; exact ht)]
      exact po.st t (by rw [wf.ld]; omega)
  · rw [sbf_take (by rw [wf.ld]; exact Nat.le_refl _) (by rw [hl]; exact Nat.le_refl _), List.take_of_length_le (by omega), List.take_of_length_le (by rw [wf.ld]; omega), po.tot]
    omega
/-- where a lot of the path may start: at an amount, or it covers nothing -/
abbrev At (Z : Pb) (x : Nat → Int) : Nat → Nat → Prop := fun s e => 0 < x s ∨ seg Z.d s e = 0
theorem lower {Z : Pb} {n : Nat} {x : Nat → Int} (wf : Wf Z n) (fp : FPlan Z n x) : ∀ t, t ≤ n →
    (∃ c, Path Z (At Z x) 0 t c ∧ c ≤ cf Z x t ∧ sbf Z.d x t = 0) ∨
    ∃ b c, b < t ∧ 0 < x b ∧ Path Z (At Z x) 0 b c ∧ c + g Z.s b + lotv Z b t + sbf Z.d x t * kept Z b t ≤ cf Z x t
  | 0, _ => .inl ⟨0, .nil, Int.le_refl 0, rfl⟩
  | t + 1, ht => by
    have ht' : t < n := ht
    have hx := fp.nn t ht'
    have hs := wf.s0 ht'
    have hsb := fp.st t (by omega)
    have hd := wf.d0 ht'
    have esb : sbf Z.d x (t + 1) = sbf Z.d x t + x t - g Z.d t := rfl
    have ecf : cf Z x (t + 1) = cf Z x t + (g Z.h t * sbf Z.d x (t + 1) + g Z.u t * x t) + (if 0 < x t then g Z.s t else 0) := rfl
    have hst := fp.st (t + 1) ht
    have esg : seg Z.d t (t + 1) = g Z.d t := by
      rw [seg_succ (Nat.le_refl _) (by rw [wf.ld]; exact ht'), seg_self]
      omega
    have elv : lotv Z t (t + 1) = g Z.u t * g Z.d t := by
      rw [lotv_succ (Nat.le_refl _), lotv_self, kept_self]
      omega
    have ekt : kept Z t (t + 1) = g Z.u t + g Z.h t := by
      rw [kept_succ wf (Nat.le_refl _) ht', kept_self]
    rcases lower wf fp t (by omega) with ⟨c, p, hc, h0⟩ | ⟨b, c, hb, hxb, p, hc⟩
    · by_cases h1 : 0 < x t
      · refine .inr ⟨t, c, Nat.lt_succ_self _, h1, p, ?_⟩
        rw [ecf, if_pos h1, elv, ekt, esb, h0]
        grind
      · have hx0 : x t = 0 := by omega
        have hd0 : g Z.d t = 0 := by omega
        refine .inl ⟨c + lotc Z t (t + 1), .snoc p (Nat.lt_succ_self _) (.inr (by rw [esg]; exact hd0)), ?_, by omega⟩
        have : lotc Z t (t + 1) = 0 := if_pos (by rw [esg]; exact hd0)
        rw [ecf, if_neg h1, this, esb, h0, hx0, hd0]
        grind
    · have ekb := kept_succ wf (Nat.le_of_lt hb) ht'
      have elb := lotv_succ (Z := Z) (Nat.le_of_lt hb)
      by_cases h1 : 0 < x t
      · by_cases hk : kept Z b t ≤ g Z.u t
        · refine .inr ⟨b, c, by omega, hxb, p, ?_⟩
          have hm := Int.mul_nonneg (show 0 ≤ g Z.u t - kept Z b t by omega) hx
          rw [ecf, if_pos h1, ekb, elb, esb]
          generalize kept Z b t = K at *
          generalize sbf Z.d x t = sb at *
          generalize cf Z x t = C at *
          generalize lotv Z b t = L at *
          generalize g Z.u t = u at *
          generalize g Z.h t = h at *
          generalize g Z.d t = d at *
          generalize g Z.s t = s at *
          generalize g Z.s b = s' at *
          generalize x t = X at *
          clear esb ecf elv ekt ekb elb esg hst
          grind
        · refine .inr ⟨t, c + lotc Z b t, Nat.lt_succ_self _, h1, .snoc p hb (.inl hxb), ?_⟩
          have hm := Int.mul_nonneg (show 0 ≤ kept Z b t - g Z.u t by omega) hsb
          have hl := lotc_le wf (show b < n by omega) (Nat.le_of_lt hb) (Nat.le_of_lt ht')
          rw [ecf, if_pos h1, elv, ekt, esb]
          generalize kept Z b t = K at *
          generalize sbf Z.d x t = sb at *
          generalize cf Z x t = C at *
          generalize lotv Z b t = L at *
          generalize lotc Z b t = L' at *
          generalize g Z.u t = u at *
          generalize g Z.h t = h at *
          generalize g Z.d t = d at *
          generalize g Z.s t = s at *
          generalize g Z.s b = s' at *
          generalize x t = X at *
          clear esb ecf elv ekt ekb elb esg hst
          grind
      · have hx0 : x t = 0 := by omega
        refine .inr ⟨b, c, by omega, hxb, p, ?_⟩
        rw [ecf, if_neg h1, ekb, elb, esb, hx0]
        generalize kept Z b t = K at *
        generalize sbf Z.d x t = sb at *
        generalize cf Z x t = C at *
        generalize lotv Z b t = L at *
        generalize g Z.u t = u at *
        generalize g Z.h t = h at *
        generalize g Z.d t = d at *
        generalize g Z.s b = s' at *
        clear esb ecf elv ekt ekb elb esg hst
        grind
/-- a plan costs at least some path of lots that start where it has amounts -/
theorem lower_bound {Z : Pb} {n : Nat} {x : Nat → Int} (wf : Wf Z n) (fp : FPlan Z n x) : ∃ c, Path Z (At Z x) 0 n c ∧ c ≤ cf Z x n := by
  rcases lower wf fp n (Nat.le_refl _) with ⟨c, p, hc, _⟩ | ⟨b, c, hb, hxb, p, hc⟩
  · exact ⟨c, p, hc⟩
  · refine ⟨c + lotc Z b n, .snoc p hb (.inl hxb), ?_⟩
    have hl := lotc_le wf (show b < n by omega) (Nat.le_of_lt hb) (Nat.le_refl _)
    rw [fp.tot] at hc
    omega

/-! ### start sets -/
/-- the first start from t on -/
def nxt (e t : Nat) : List Nat → Nat
  | [] => e
  | a :: r => if t ≤ a then a else nxt e t r
theorem nxt_bd {e t : Nat} : ∀ {T : List Nat}, Asc T e → t ≤ e → t ≤ nxt e t T ∧ nxt e t T ≤ e ∧ T.headD e ≤ nxt e t T ∧ T.headD e ≤ e
  | [], _, h => ⟨h, Nat.le_refl _, Nat.le_refl _, Nat.le_refl _⟩
  | a :: r, A, h => by
    have ha := A.lt a (List.mem_cons_self ..)
    have Ar : Asc r e := ⟨(List.pairwise_cons.mp A.pw).2, fun t ht => A.lt t (List.mem_cons_of_mem _ ht)⟩
    have ih := nxt_bd Ar h
    have hr : a ≤ r.headD e := by
      cases r with
      | nil => exact Nat.le_of_lt ha
      | cons b s => exact Nat.le_of_lt ((List.pairwise_cons.mp A.pw).1 b (List.mem_cons_self ..))
    show t ≤ (if t ≤ a then a else nxt e t r) ∧ (if t ≤ a then a else nxt e t r) ≤ e ∧ a ≤ (if t ≤ a then a else nxt e t r) ∧ a ≤ e
    split <;> omega
theorem nxt_end {e : Nat} {T : List Nat} (A : Asc T e) : nxt e e T = e := by
  have := nxt_bd A (Nat.le_refl e)
  omega
/-- what is made below t -/
def sf (x : Nat → Int) : Nat → Int
  | 0 => 0
  | t + 1 => sf x t + x t
theorem sbf_sf {d : List Int} {x : Nat → Int} : ∀ {t : Nat}, t ≤ d.length → sbf d x t = sf x t - seg d 0 t
  | 0, _ => by
    rw [seg_self]
    rfl
  | t + 1, h => by
    show sbf d x t + x t - g d t = sf x t + x t - _
    rw [sbf_sf (by omega), seg_succ (Nat.zero_le _) h]
    omega
theorem sf_fil {d : List Int} {e t : Nat} (he : e ≤ d.length) (ht : t ≤ e) : ∀ {T : List Nat}, Asc T e → sf (fil d e T) t = seg d (T.headD e) (nxt e t T)
  | [], _ => by
    have : ∀ t, sf (fil d e []) t = 0 := by
      intro t
      induction t with
      | zero => rfl
      | succ t ih =>
        show sf (fil d e []) t + 0 = 0
        omega
    rw [this]
    exact (seg_self d e).symm
  | a :: r, A => by
    have ha := A.lt a (List.mem_cons_self ..)
    have Ar : Asc r e := ⟨(List.pairwise_cons.mp A.pw).2, fun t ht => A.lt t (List.mem_cons_of_mem _ ht)⟩
    have har : ∀ b ∈ r, a < b := (List.pairwise_cons.mp A.pw).1
    have ih := sf_fil he ht Ar
    have nb := nxt_bd Ar ht
    have hr : a ≤ r.headD e := by
      cases r with
      | nil => exact Nat.le_of_lt ha
      | cons b s => exact Nat.le_of_lt (har b (List.mem_cons_self ..))
    -- the sum with the first start
    have key : ∀ u, sf (fil d e (a :: r)) u = (if u ≤ a then 0 else seg d a (r.headD e) + sf (fil d e r) u) ∧ (u ≤ a → sf (fil d e r) u = 0) := by
      intro u
      induction u with
      | zero => exact ⟨by rw [if_pos (Nat.zero_le _)]; rfl, fun _ => rfl⟩
      | succ u ihu =>
        obtain ⟨i1, i2⟩ := ihu
        have e1 : sf (fil d e (a :: r)) (u + 1) = sf (fil d e (a :: r)) u + (if u = a then seg d a (r.headD e) else fil d e r u) := rfl
        have e2 : sf (fil d e r) (u + 1) = sf (fil d e r) u + fil d e r u := rfl
        have hz : u ≤ a → fil d e r u = 0 := fun h => fil_not fun hm => by have := har u hm; omega
        rw [e1, e2, i1]
        by_cases h1 : u + 1 ≤ a
        · rw [if_pos (by omega), if_neg (by omega), if_pos h1, hz (by omega)]
          exact ⟨by omega, fun _ => by have := i2 (by omega); omega⟩
        · rw [if_neg h1]
          refine ⟨?_, fun h => absurd h h1⟩
          by_cases h2 : u = a
          · rw [if_pos (by omega), if_pos h2, i2 (by omega), hz (by omega)]
            omega
          · rw [if_neg (by omega), if_neg h2]
            omega
    rw [(key t).1]
    show _ = seg d a (if t ≤ a then a else nxt e t r)
    by_cases h : t ≤ a
    · rw [if_pos h, if_pos h, seg_self]
    · rw [if_neg h, if_neg h, ih]
      exact (seg_add hr nb.2.2.1 (by omega)).symm
theorem fil_nonneg {Z : Pb} {n : Nat} (wf : Wf Z n) (e : Nat) : ∀ (T : List Nat) (i : Nat), 0 ≤ fil Z.d e T i
  | [], _ => Int.le_refl 0
  | a :: r, i => by
    show 0 ≤ (if i = a then seg Z.d a (r.headD e) else fil Z.d e r i)
    split
    · exact wf.segd _ _
    · exact fil_nonneg wf e r i
theorem fil_plan {Z : Pb} {n e : Nat} {T : List Nat} (wf : Wf Z n) (he : e ≤ n) (A : Asc T e) (h0 : seg Z.d 0 (T.headD e) = 0) : FPlan Z e (fil Z.d e T) := by
  have hl : e ≤ Z.d.length := by rw [wf.ld]; exact he
  have key : ∀ t, t ≤ e → sbf Z.d (fil Z.d e T) t = seg Z.d t (nxt e t T) := fun t ht => by
    have nb := nxt_bd A ht
    rw [sbf_sf (by omega), sf_fil hl ht A]
    have e1 := seg_add (l := Z.d) (Nat.zero_le (T.headD e)) nb.2.2.1 (by omega)
    have e2 := seg_add (l := Z.d) (Nat.zero_le t) nb.1 (by omega)
    omega
  refine ⟨fun i _ => fil_nonneg wf e T i, fun t ht => ?_, ?_⟩
  · rw [key t ht]
    exact wf.segd _ _
  · rw [key e (Nat.le_refl _), nxt_end A, seg_self]
end Lp

/-! The mathematics, third part: each path is the cost of some start set; the law's question answered. -/
namespace Lp
theorem setsM_mono {i j : Nat} (h : i ≤ j) {T : List Nat} (hT : T ∈ setsM i) : T ∈ setsM j := by
  induction h with
  | refl => exact hT
  | step _ ih => exact List.mem_append_left _ ih
theorem fil_ext {d : List Int} {s e : Nat} (hse : s ≤ e) (he : e ≤ d.length) (h0 : seg d s e = 0) : ∀ {T : List Nat}, (∀ t ∈ T, t < s) → ∀ i, fil d e T i = fil d s T i
  | [], _, _ => rfl
  | a :: r, h, i => by
    show (if i = a then seg d a (r.headD e) else fil d e r i) = (if i = a then seg d a (r.headD s) else fil d s r i)
    rw [fil_ext hse he h0 (fun t ht => h t (List.mem_cons_of_mem _ ht)) i]
    cases r with
    | nil =>
      show (if i = a then seg d a e else _) = (if i = a then seg d a s else _)
      have := h a (List.mem_cons_self ..)
      rw [seg_add (l := d) (show a ≤ s by omega) hse he, h0, Int.add_zero]
    | cons b q => rfl
theorem fil_snoc {d : List Int} {s e : Nat} : ∀ {T : List Nat}, (∀ t ∈ T, t < s) → ∀ i, fil d e (T ++ [s]) i = if i = s then seg d s e else fil d s T i
  | [], _, i => rfl
  | a :: r, h, i => by
    have ha := h a (List.mem_cons_self ..)
    show (if i = a then seg d a ((r ++ [s]).headD e) else fil d e (r ++ [s]) i) = (if i = s then seg d s e else (if i = a then seg d a (r.headD s) else fil d s r i))
    rw [fil_snoc (fun t ht => h t (List.mem_cons_of_mem _ ht)) i]
    have eh : (r ++ [s]).headD e = r.headD s := by
      cases r <;> rfl
    rw [eh]
    by_cases h1 : i = s
    · rw [if_pos h1, if_pos h1, if_neg (by omega)]
    · rw [if_neg h1, if_neg h1]
/-- one lot from s on: what the periods below t cost -/
theorem pot {Z : Pb} {n s : Nat} {x : Nat → Int} (wf : Wf Z n) (h0 : sbf Z.d x s = 0) (hx : 0 < x s) (hz : ∀ i, s < i → x i = 0) : ∀ t, s < t → t ≤ n → cf Z x t = cf Z x s + g Z.s s + lotv Z s t + sbf Z.d x t * kept Z s t := by
  intro t
  induction t with
  | zero => intro h _; omega
  | succ t ih =>
    intro hst ht
    have esb : sbf Z.d x (t + 1) = sbf Z.d x t + x t - g Z.d t := rfl
    have ecf : cf Z x (t + 1) = cf Z x t + (g Z.h t * sbf Z.d x (t + 1) + g Z.u t * x t) + (if 0 < x t then g Z.s t else 0) := rfl
    have ek := kept_succ wf (show s ≤ t by omega) (show t < n by omega)
    have el := lotv_succ (Z := Z) (show s ≤ t by omega)
    by_cases e : s = t
    · subst e
      rw [ecf, if_pos hx, el, ek, esb, h0, lotv_self, kept_self]
      grind
    · have ih' := ih (by omega) (by omega)
      have hx0 := hz t (by omega)
      rw [ecf, if_neg (by omega), el, ek, esb, hx0, ih']
      grind
/-- nothing happens where nothing is demanded and nothing is in stock -/
theorem idle {Z : Pb} {n s : Nat} {x : Nat → Int} (wf : Wf Z n) (h0 : sbf Z.d x s = 0) (hz : ∀ i, s ≤ i → x i = 0) {e : Nat} (he : e ≤ n) (hd : seg Z.d s e = 0) : ∀ t, s ≤ t → t ≤ e → sbf Z.d x t = 0 ∧ cf Z x t = cf Z x s := by
  intro t
  induction t with
  | zero =>
    intro h _
    have : s = 0 := by omega
    subst this
    exact ⟨h0, rfl⟩
  | succ t ih =>
    intro hst ht
    by_cases e1 : s = t + 1
    · subst e1
      exact ⟨h0, rfl⟩
    · obtain ⟨i1, i2⟩ := ih (by omega) (by omega)
      have hx0 := hz t (by omega)
      have hd0 : g Z.d t = 0 := by
        have a1 := seg_add (l := Z.d) (show s ≤ t by omega) (show t ≤ e by omega) (by rw [wf.ld]; exact he)
        have a2 := seg_add (l := Z.d) (show t ≤ t + 1 by omega) ht (by rw [wf.ld]; exact he)
        have a3 := seg_succ (l := Z.d) (Nat.le_refl t) (by rw [wf.ld]; omega)
        rw [seg_self] at a3
        have b1 := wf.segd s t
        have b2 := wf.segd (t + 1) e
        have b3 := (wf.d0 (i := t) (by omega)).1
        omega
      have esb : sbf Z.d x (t + 1) = sbf Z.d x t + x t - g Z.d t := rfl
      have ecf : cf Z x (t + 1) = cf Z x t + (g Z.h t * sbf Z.d x (t + 1) + g Z.u t * x t) + (if 0 < x t then g Z.s t else 0) := rfl
      have e2 : sbf Z.d x (t + 1) = 0 := by rw [esb]; omega
      refine ⟨e2, ?_⟩
      rw [ecf, e2, hx0, if_neg (by omega), Int.mul_zero, Int.mul_zero]
      omega
/-- each path is met by a start set -/
theorem upper {Z : Pb} {n e : Nat} {c : Int} (wf : Wf Z n) (h : Path Z All 0 e c) (he : e ≤ n) : ∃ T, T ∈ setsM e ∧ seg Z.d 0 (T.headD e) = 0 ∧ cf Z (fil Z.d e T) e = c := by
  induction h with
  | nil => exact ⟨[], List.mem_singleton.mpr rfl, seg_self _ _, rfl⟩
  | @snoc s e c h1 h2 h3 ih =>
    obtain ⟨T, hT, hv, hc⟩ := ih (by omega)
    have A := setsM_asc s T hT
    have fp := fil_plan wf (show s ≤ n by omega) A hv
    have hnot : ∀ i, s ≤ i → fil Z.d s T i = 0 := fun i hi => fil_not fun hm => by have := A.lt i hm; omega
    by_cases h0 : seg Z.d s e = 0
    · have ex := fil_ext (d := Z.d) (Nat.le_of_lt h2) (by rw [wf.ld]; exact he) h0 (T := T) A.lt
      have ef : fil Z.d e T = fil Z.d s T := funext ex
      refine ⟨T, setsM_mono (Nat.le_of_lt h2) hT, ?_, ?_⟩
      · cases T with
        | nil =>
          show seg Z.d 0 e = 0
          rw [seg_add (l := Z.d) (Nat.zero_le s) (Nat.le_of_lt h2) (by rw [wf.ld]; exact he), h0]
          have : seg Z.d 0 s = 0 := hv
          omega
        | cons a r => exact hv
      · have := (idle wf fp.tot hnot he h0 e (Nat.le_of_lt h2) (Nat.le_refl _)).2
        have hz : lotc Z s e = 0 := if_pos h0
        rw [ef, this, hc, hz]
        omega
    · have ex := fil_snoc (d := Z.d) (e := e) (T := T) A.lt
      have hp := wf.segd s e
      have hT2 : T ++ [s] ∈ setsM e := setsM_mono (show s + 1 ≤ e by omega) (List.mem_append_right _ (List.mem_map.mpr ⟨T, hT, rfl⟩))
      have A2 := setsM_asc e _ hT2
      have hv2 : seg Z.d 0 ((T ++ [s]).headD e) = 0 := by
        cases T with
        | nil => exact hv
        | cons a r => exact hv
      have fp2 := fil_plan wf he A2 hv2
      have ex1 : ∀ i, i < s → fil Z.d e (T ++ [s]) i = fil Z.d s T i := fun i hi => by rw [ex i, if_neg (by omega)]
      have exs : fil Z.d e (T ++ [s]) s = seg Z.d s e := by rw [ex s, if_pos rfl]
      have exz : ∀ i, s < i → fil Z.d e (T ++ [s]) i = 0 := fun i hi => by
        rw [ex i, if_neg (by omega)]
        exact hnot i (by omega)
      refine ⟨T ++ [s], hT2, hv2, ?_⟩
      have q := pot wf (x := fil Z.d e (T ++ [s])) (s := s) (by rw [sbf_congr ex1]; exact fp.tot) (by rw [exs]; omega) exz e h2 he
      rw [q, fp2.tot, cf_congr ex1, hc, Int.zero_mul]
      have hl : lotc Z s e = g Z.s s + lotv Z s e := if_neg h0
      rw [hl]
      omega
theorem filList {d : List Int} {n : Nat} {T : List Nat} : FilOk d n T ((List.range n).map (fil d n T)) := by
  refine ⟨by rw [List.length_map, List.length_range], fun i hi => ?_⟩
  unfold g
  rw [List.getD_eq_getElem?_getD, List.getElem?_map, List.getElem?_range hi]
  rfl
theorem FilOk.cf {Z : Pb} {n : Nat} {T : List Nat} {xs : List Int} (wf : Wf Z n) (F : FilOk Z.d n T xs) : cpre Z xs n = Lp.cf Z (fil Z.d n T) n := by
  rw [cpre_cf wf F.len (Nat.le_refl _)]
  exact cf_congr F.el
theorem val_iff {Z : Pb} {n : Nat} {T : List Nat} (wf : Wf Z n) : Val Z n T ↔ seg Z.d 0 (T.headD n) = 0 := by
  have := wf.segd 0 (T.headD n)
  unfold Val
  omega
/-- an allowed start set's plan is a plan -/
theorem FilOk.plan {Z : Pb} {n : Nat} {T : List Nat} {xs : List Int} (wf : Wf Z n) (A : Asc T n) (hv : Val Z n T) (F : FilOk Z.d n T xs) : PlanOk Z.d xs := by
  have fp := fil_plan wf (Nat.le_refl n) A ((val_iff wf).mp hv)
  have hl : xs.length = Z.d.length := by rw [F.len, wf.ld]
  have es : ∀ t, t ≤ n → (xs.take t).sum - (Z.d.take t).sum = sbf Z.d (fil Z.d n T) t := fun t ht => by
    rw [← sbf_take (by rw [wf.ld]; exact ht) (by rw [F.len]; exact ht)]
    exact sbf_congr fun i hi => F.el i (by omega)
  refine ⟨hl, fun x hx => ?_, fun i hi => ?_, ?_⟩
  · obtain ⟨i, hi, rfl⟩ := List.getElem_of_mem hx
    have := fp.nn i (by rw [← F.len]; exact hi)
    rw [← F.el i (by rw [← F.len]; exact hi)] at this
    unfold g at this
    rw [List.getD_eq_getElem?_getD, List.getElem?_eq_getElem hi] at this
    exact this
  · unfold stk
    rw [es (i + 1) (by rw [← wf.ld]; exact hi)]
    exact fp.st _ (by rw [← wf.ld]; exact hi)
  · have := es n (Nat.le_refl n)
    rw [fp.tot, List.take_of_length_le (by rw [F.len]; exact Nat.le_refl _), List.take_of_length_le (by rw [wf.ld]; exact Nat.le_refl _)] at this
    omega
/-- the law's least: no path is less, and some path is not more -/
theorem LeastOk.le_path {Z : Pb} {n : Nat} {m c : Int} (wf : Wf Z n) (L : LeastOk Z n m) (p : Path Z All 0 n c) : m ≤ c := by
  obtain ⟨T, hT, hv, hc⟩ := upper wf p (Nat.le_refl _)
  have := L.le T _ hT ((val_iff wf).mpr hv) filList
  rw [FilOk.cf wf filList, hc] at this
  exact this
theorem LeastOk.path_le {Z : Pb} {n : Nat} {m : Int} (wf : Wf Z n) (L : LeastOk Z n m) : ∃ c, Path Z All 0 n c ∧ c ≤ m := by
  obtain ⟨T, xs, hT, hv, F, rfl⟩ := L.ex
  have fp := fil_plan wf (Nat.le_refl n) (setsM_asc n T hT) ((val_iff wf).mp hv)
  obtain ⟨c, p, hc⟩ := lower_bound wf fp
  exact ⟨c, p.mono fun _ _ _ _ _ => trivial, by rw [F.cf wf]; exact hc⟩
theorem cpre_setS {Z : Pb} {n k : Nat} {S : Int} {xs : List Int} (wf : Wf Z n) (hk : k < n) : ∀ t, t ≤ n → cpre (setS Z k S) xs t = cpre Z xs t + (if k < t ∧ 0 < g xs k then S - g Z.s k else 0)
  | 0, _ => by
    rw [if_neg (by omega)]
    rfl
  | t + 1, ht => by
    have e1 : cpre (setS Z k S) xs (t + 1) = cpre (setS Z k S) xs t + (g Z.h t * stk Z.d xs t + g Z.u t * g xs t) + (if 0 < g xs t then g (setS Z k S).s t else 0) := rfl
    have e2 : cpre Z xs (t + 1) = cpre Z xs t + (g Z.h t * stk Z.d xs t + g Z.u t * g xs t) + (if 0 < g xs t then g Z.s t else 0) := rfl
    rw [e1, e2, cpre_setS wf hk t (by omega), g_setS wf hk]
    generalize g Z.h t * stk Z.d xs t + g Z.u t * g xs t = X
    by_cases h1 : t = k
    · subst h1
      rw [if_neg (show ¬ (t < t ∧ 0 < g xs t) by omega), if_pos rfl]
      by_cases h2 : 0 < g xs t
      · rw [if_pos h2, if_pos h2, if_pos ⟨Nat.lt_succ_self _, h2⟩]
        omega
      · rw [if_neg h2, if_neg h2, if_neg (by omega)]
        omega
    · have a1 : (if k < t + 1 ∧ 0 < g xs k then S - g Z.s k else 0) = (if k < t ∧ 0 < g xs k then S - g Z.s k else 0) := by
        by_cases h3 : k < t ∧ 0 < g xs k
        · rw [if_pos h3, if_pos (show k < t + 1 ∧ 0 < g xs k from ⟨by omega, h3.2⟩)]
        · rw [if_neg h3, if_neg (show ¬ (k < t + 1 ∧ 0 < g xs k) from fun z => h3 ⟨by omega, z.2⟩)]
      rw [a1, if_neg h1]
      omega
end Lp

/-! The mathematics, last part: the law's question. -/
namespace Lp
def inB (res : Option (Int × Option Int)) (S : Int) : Bool :=
  match res with
  | none => false
  | some (l, u) => decide (l ≤ S) && (match u with | none => true | some v => decide (S ≤ v))
theorem Path.nonneg {Z : Pb} {n : Nat} {A : Nat → Nat → Prop} {a b : Nat} {c : Int} (wf : Wf Z n) (h : Path Z A a b c) (hb : b ≤ n) : 0 ≤ c := by
  induction h with
  | nil => exact Int.le_refl 0
  | @snoc s e c h1 h2 h3 ih =>
    have := ih (by omega)
    have := lotc_nonneg wf (show s < n by omega) (Nat.le_of_lt h2) hb
    omega
theorem kept_le {Z : Pb} {n a b : Nat} (wf : Wf Z n) (ha : a < n) : kept Z a b ≤ 100998 := by
  unfold kept
  have h1 := wf.u0 ha
  have h2 := seg_le wf.bh (by rw [wf.lh]; exact wf.n12) a b
  omega
theorem lotv_le {Z : Pb} {n a : Nat} (wf : Wf Z n) (ha : a < n) : ∀ {b : Nat}, a ≤ b → b ≤ n → lotv Z a b ≤ ((b - a : Nat) : Int) * 100897002 := by
  intro b
  induction b with
  | zero =>
    intro h _
    have : a = 0 := by omega
    subst this
    rw [lotv_self]
    omega
  | succ b ih =>
    intro h hb
    by_cases e : a = b + 1
    · subst e
      rw [lotv_self]
      omega
    · rw [lotv_succ (by omega)]
      have h1 := ih (by omega) (by omega)
      have h2 := kept_le wf ha (b := b)
      have h3 := kept_nonneg wf ha (b := b)
      have h4 := wf.d0 (i := b) (by omega)
      have h5 : kept Z a b * g Z.d b ≤ 100998 * 999 := Int.mul_le_mul h2 h4.2 h4.1 (by omega)
      have e2 : b + 1 - a = (b - a) + 1 := by omega
      rw [e2]
      omega
theorem Path.bound {Z : Pb} {n : Nat} {A : Nat → Nat → Prop} {a b : Nat} {c : Int} (wf : Wf Z n) (h9 : ∀ x ∈ Z.s, x ≤ 999) (h : Path Z A a b c) (hb : b ≤ n) : c ≤ ((b - a : Nat) : Int) * 100898001 := by
  induction h with
  | nil => omega
  | @snoc s e c h1 h2 h3 ih =>
    have i1 := ih (by omega)
    have hs := h1.le
    have i2 := lotc_le wf (show s < n by omega) (Nat.le_of_lt h2) hb
    have i3 := lotv_le wf (show s < n by omega) (Nat.le_of_lt h2) hb
    have i4 := h9 _ (g_mem (show s < Z.s.length by rw [wf.ls]; omega))
    have e1 : ((e - a : Nat) : Int) = ((s - a : Nat) : Int) + ((e - s : Nat) : Int) := by omega
    have e2 : (1 : Int) ≤ ((e - s : Nat) : Int) := by omega
    rw [e1]
    generalize ((s - a : Nat) : Int) = X at *
    generalize ((e - s : Nat) : Int) = Y at *
    omega
theorem sf_mono {x : Nat → Int} {n k : Nat} (h : ∀ i, i < n → 0 ≤ x i) : ∀ t, k < t → t ≤ n → sf x k + x k ≤ sf x t := by
  intro t
  induction t with
  | zero => intro h' _; omega
  | succ t ih =>
    intro hk ht
    show _ ≤ sf x t + x t
    by_cases e : k = t
    · subst e
      exact Int.le_refl _
    · have := ih (by omega) (by omega)
      have := h t (by omega)
      omega
section
variable {Z : Pb} {n k : Nat} {xs : List Int} {wt : List (Option Int)} {t : List Int} {r : Option Int}
theorem from_path (wf : Wf Z n) (hk : k < n) (hw : WtOk Z k wt n) (ht : StOk (setS Z k 0) t n) (hF : FoOk (setS Z k 0) n k t n r) {S c : Int} (p : Path (setS Z k S) All 0 n c) :
    (∃ o, ot wt n = some o ∧ o ≤ c) ∨ ∃ f, r = some f ∧ f + S ≤ c := by
  rcases path_split wf hk p (Nat.le_refl _) with p | ⟨e', c1, c2, q1, q2, q3, q4, q5, rfl⟩
  · exact .inl (hw.dp.below p (Nat.le_refl _))
  · have p1 : Path (setS Z k 0) All 0 k c1 := q4.congr fun s e _ h2 h3 _ => ⟨trivial, lotc_ne wf hk (.inl (by omega))⟩
    have p2 : Path (setS Z k 0) All e' n c2 := q5.congr fun s e h1 h2 h3 _ => ⟨trivial, lotc_ne wf hk (.inl (by omega))⟩
    obtain ⟨v, hv, hle⟩ := ht.dp.below p1 (Nat.le_of_lt hk)
    have hv' := Option.some.inj hv
    obtain ⟨f, B, hf, hB, hle2⟩ := hF.le e' q1 q2 q3
    have hb := rest_below hB p2
    have h0 : g (setS Z k 0).s k = 0 := by rw [g_setS wf hk, if_pos rfl]
    rw [h0, lotv_setS] at hle2
    exact .inr ⟨f, hf, by omega⟩
theorem path_other (wf : Wf Z n) (hk : k < n) (hw : WtOk Z k wt n) {S o : Int} (h : ot wt n = some o) : Path (setS Z k S) All 0 n o :=
  (hw.dp.path n o (Nat.le_refl _) h).congr fun s e _ _ _ ho => ⟨trivial, lotc_ne wf hk ho⟩
theorem path_free (wf : Wf Z n) (hk : k < n) (ht : StOk (setS Z k 0) t n) (hF : FoOk (setS Z k 0) n k t n r) {S f : Int} (h : r = some f) : Path (setS Z k S) All 0 n (f + S) := by
  obtain ⟨e, B, h1, h2, h3, h4, rfl⟩ := hF.ex f h
  have p1 := ht.dp.path k _ (Nat.le_of_lt hk) rfl
  have p2 := rest_path h4
  have p1' : Path (setS Z k S) All 0 k (g t k) := p1.congr fun s e _ h2 h3 _ => ⟨trivial, by rw [lotc_ne wf hk (.inl (by omega)), lotc_ne wf hk (.inl (by omega))]⟩
  have p2' : Path (setS Z k S) All e n B := p2.congr fun s e h1 h2 h3 _ => ⟨trivial, by rw [lotc_ne wf hk (.inl (by omega)), lotc_ne wf hk (.inl (by omega))]⟩
  have h0 : g (setS Z k 0).s k = 0 := by rw [g_setS wf hk, if_pos rfl]
  have hl : lotc (setS Z k S) k e = S + lotv Z k e := lotc_k wf hk (fun z => by
    have h3' : 0 < seg Z.d k e := h3
    omega)
  have p := (Path.snoc p1' h1 trivial).join p2'
  rw [hl] at p
  rw [h0, lotv_setS]
  have e1 : g t k + (S + lotv Z k e) + B = g t k + 0 + lotv Z k e + B + S := by omega
  rw [e1] at p
  exact p
theorem paid_pos (wf : Wf Z n) (hk : k < n) (po : PlanOk Z.d xs) (hp : 0 < g xs k) : ∃ c, Path (setS Z k 0) All 0 n c ∧ c ≤ cpre Z xs n - g Z.s k := by
  have wf0 := wf.setS hk (Int.le_refl 0)
  have hl : xs.length = n := by rw [po.len, wf.ld]
  have po0 : PlanOk (setS Z k 0).d xs := po
  obtain ⟨c, p, hc⟩ := lower_bound wf0 (po0.f wf0)
  rw [← cpre_cf wf0 hl (Nat.le_refl _), cpre_setS wf hk n (Nat.le_refl _), if_pos ⟨hk, hp⟩] at hc
  exact ⟨c, p.mono fun _ _ _ _ _ => trivial, by omega⟩
theorem paid_neg (wf : Wf Z n) (po : PlanOk Z.d xs) (hp : ¬ 0 < g xs k) : ∃ c, Path Z (Off Z k) 0 n c ∧ c ≤ cpre Z xs n := by
  have hl : xs.length = n := by rw [po.len, wf.ld]
  obtain ⟨c, p, hc⟩ := lower_bound wf (po.f wf)
  rw [← cpre_cf wf hl (Nat.le_refl _)] at hc
  refine ⟨c, p.mono fun s e _ _ h => ?_, hc⟩
  rcases h with h | h
  · exact .inl fun z => hp (z ▸ h)
  · exact .inr h
theorem free_some (wf : Wf Z n) (hk : k < n) (po : PlanOk Z.d xs) (hF : FoOk (setS Z k 0) n k t n r) (hp : 0 < g xs k) : ∃ f, r = some f := by
  have fp := po.f wf
  have hl : n ≤ Z.d.length := by rw [wf.ld]; exact Nat.le_refl _
  have e1 := sbf_sf (d := Z.d) (x := g xs) hl
  have e2 := sbf_sf (d := Z.d) (x := g xs) (t := k) (by omega)
  have h1 := fp.st k (Nat.le_of_lt hk)
  have h2 := fp.tot
  have h3 := sf_mono fp.nn n hk (Nat.le_refl _)
  have h4 := seg_add (l := Z.d) (Nat.zero_le k) (Nat.le_of_lt hk) hl
  obtain ⟨v, B, hv, _⟩ := hF.le n hk (Nat.le_refl _) (by show 0 < seg Z.d k n; omega)
  exact ⟨v, hv⟩
/-- THE LAW'S QUESTION: the plan has the least cost with the setup S just where setup_range says so -/
theorem main_iff (wf : Wf Z n) (hk : k < n) (po : PlanOk Z.d xs) (hw : WtOk Z k wt n) (ht : StOk (setS Z k 0) t n) (hF : FoOk (setS Z k 0) n k t n r) {S m : Int} (hS : 0 ≤ S) (L : LeastOk (setS Z k S) n m) :
    decide (cpre (setS Z k S) xs n = m) = inB (srM (decide (0 < g xs k)) (cpre Z xs n - (if 0 < g xs k then g Z.s k else 0)) (ot wt n) r) S := by
  have wfS := wf.setS hk hS
  have mo : ∀ o, ot wt n = some o → m ≤ o := fun o h => L.le_path wfS (path_other wf hk hw h)
  have mf : ∀ f, r = some f → m ≤ f + S := fun f h => L.le_path wfS (path_free wf hk ht hF h)
  have ml : (∃ o, ot wt n = some o ∧ o ≤ m) ∨ ∃ f, r = some f ∧ f + S ≤ m := by
    obtain ⟨c, p, hc⟩ := L.path_le wfS
    rcases from_path wf hk hw ht hF p with ⟨o, h1, h2⟩ | ⟨f, h1, h2⟩
    · exact .inl ⟨o, h1, by omega⟩
    · exact .inr ⟨f, h1, by omega⟩
  rw [cpre_setS wf hk n (Nat.le_refl _)]
  by_cases hp : 0 < g xs k
  · obtain ⟨f, hf⟩ := free_some wf hk po hF hp
    obtain ⟨c, p, hc⟩ := paid_pos wf hk po hp
    have pl := from_path wf hk hw ht hF p
    rw [if_pos ⟨hk, hp⟩, if_pos hp, decide_eq_true hp]
    generalize cpre Z xs n = C at *
    generalize g Z.s k = s at *
    subst hf
    have mf' := mf f rfl
    unfold srM
    rw [if_pos rfl]
    simp only
    generalize ot wt n = O at *
    cases O with
    | none =>
      have ml' : f + S ≤ m := by
        rcases ml with ⟨o, h1, h2⟩ | ⟨f', h1, h2⟩
        · cases h1
        · cases h1
          exact h2
      have pl' : f + 0 ≤ c := by
        rcases pl with ⟨o, h1, h2⟩ | ⟨f', h1, h2⟩
        · cases h1
        · cases h1
          exact h2
      by_cases h1 : f < C - s
      · rw [if_pos h1]
        exact decide_eq_false (by omega)
      · rw [if_neg h1]
        show _ = (decide (0 ≤ S) && true)
        rw [decide_eq_true hS]
        exact decide_eq_true (by omega)
    | some o =>
      have mo' := mo o rfl
      have ml' : o ≤ m ∨ f + S ≤ m := by
        rcases ml with ⟨o', h1, h2⟩ | ⟨f', h1, h2⟩
        · cases h1
          exact .inl h2
        · cases h1
          exact .inr h2
      have pl' : o ≤ c ∨ f + 0 ≤ c := by
        rcases pl with ⟨o', h1, h2⟩ | ⟨f', h1, h2⟩
        · cases h1
          exact .inl h2
        · cases h1
          exact .inr h2
      by_cases h1 : f < C - s
      · rw [if_pos h1]
        exact decide_eq_false (by omega)
      · rw [if_neg h1]
        show decide (C + (S - s) = m) = inB (if o < C - s then none else some (0, some (o - (C - s)))) S
        by_cases h2 : o < C - s
        · rw [if_pos h2]
          exact decide_eq_false (by omega)
        · rw [if_neg h2]
          show _ = (decide (0 ≤ S) && decide (S ≤ o - (C - s)))
          rw [decide_eq_true hS, Bool.true_and]
          by_cases h3 : S ≤ o - (C - s)
          · rw [decide_eq_true h3]
            exact decide_eq_true (by omega)
          · rw [decide_eq_false h3]
            exact decide_eq_false (by omega)
  · obtain ⟨c, p, hc⟩ := paid_neg wf po hp
    obtain ⟨o, ho, hoc⟩ := hw.dp.below p (Nat.le_refl _)
    rw [if_neg (fun z => hp z.2), if_neg hp, decide_eq_false hp, ho]
    have mo' := mo o ho
    generalize cpre Z xs n = C at *
    unfold srM
    rw [if_neg Bool.false_ne_true]
    simp only
    by_cases h1 : o < C - 0
    · rw [if_pos h1]
      exact decide_eq_false (by omega)
    · rw [if_neg h1]
      cases r with
      | none =>
        have ml' : o ≤ m := by
          rcases ml with ⟨o', h1, h2⟩ | ⟨f', h1, h2⟩
          · rw [ho] at h1
            cases h1
            exact h2
          · cases h1
        show _ = (decide (0 ≤ S) && true)
        rw [decide_eq_true hS]
        exact decide_eq_true (by omega)
      | some f =>
        have mf' := mf f rfl
        have ml' : o ≤ m ∨ f + S ≤ m := by
          rcases ml with ⟨o', h1, h2⟩ | ⟨f', h1, h2⟩
          · rw [ho] at h1
            cases h1
            exact .inl h2
          · cases h1
            exact .inr h2
        show _ = (decide ((if 0 < C - 0 - f then C - 0 - f else 0) ≤ S) && true)
        rw [Bool.and_true]
        by_cases h3 : (if 0 < C - 0 - f then C - 0 - f else 0) ≤ S
        · rw [decide_eq_true h3]
          refine decide_eq_true ?_
          split at h3 <;> omega
        · rw [decide_eq_false h3]
          refine decide_eq_false ?_
          split at h3 <;> omega
/-- how great the ends are -/
theorem main_bd (wf : Wf Z n) (hn : n ≤ 6) (h9 : ∀ x ∈ Z.s, x ≤ 999) (hk : k < n) (po : PlanOk Z.d xs) (hw : WtOk Z k wt n) (ht : StOk (setS Z k 0) t n) (hF : FoOk (setS Z k 0) n k t n r) {l : Int} {u : Option Int}
    (h : srM (decide (0 < g xs k)) (cpre Z xs n - (if 0 < g xs k then g Z.s k else 0)) (ot wt n) r = some (l, u)) : 0 ≤ l ∧ l ≤ 1000000000 ∧ ∀ v, u = some v → l ≤ v ∧ v ≤ 1000000000 := by
  have ob : ∀ o, ot wt n = some o → o ≤ 605388006 := fun o ho => by
    have := (hw.dp.path n o (Nat.le_refl _) ho).bound wf h9 (Nat.le_refl _)
    rw [Nat.sub_zero] at this
    omega
  have fb : ∀ f, r = some f → 0 ≤ f := fun f hf => by
    have p := path_free wf hk ht hF (S := 0) hf
    have := p.nonneg (wf.setS hk (Int.le_refl 0)) (Nat.le_refl _)
    omega
  by_cases hp : 0 < g xs k
  · obtain ⟨c, p, hc⟩ := paid_pos wf hk po hp
    have c0 := p.nonneg (wf.setS hk (Int.le_refl 0)) (Nat.le_refl _)
    rw [if_pos hp, decide_eq_true hp] at h
    generalize cpre Z xs n - g Z.s k = C at *
    unfold srM at h
    rw [if_pos rfl] at h
    cases r with
    | none => cases h
    | some f =>
      simp only at h
      by_cases h1 : f < C
      · rw [if_pos h1] at h
        cases h
      · rw [if_neg h1] at h
        generalize ot wt n = O at *
        cases O with
        | none =>
          cases h
          exact ⟨by omega, by omega, fun v hv => by cases hv⟩
        | some o =>
          simp only at h
          by_cases h2 : o < C
          · rw [if_pos h2] at h
            cases h
          · rw [if_neg h2] at h
            cases h
            have := ob o rfl
            exact ⟨by omega, by omega, fun v hv => by cases hv; omega⟩
  · rw [if_neg hp, decide_eq_false hp] at h
    generalize cpre Z xs n - 0 = C at *
    unfold srM at h
    rw [if_neg Bool.false_ne_true] at h
    generalize ot wt n = O at *
    cases O with
    | none => cases h
    | some o =>
      simp only at h
      have := ob o rfl
      by_cases h2 : o < C
      · rw [if_pos h2] at h
        cases h
      · rw [if_neg h2] at h
        cases r with
        | none =>
          have e := Option.some.inj h
          have e1 : l = 0 := (congrArg Prod.fst e).symm
          have e2 : u = none := (congrArg Prod.snd e).symm
          rw [e1, e2]
          exact ⟨by omega, by omega, fun v hv => by cases hv⟩
        | some f =>
          have := fb f rfl
          have e := Option.some.inj h
          have e1 : l = (if 0 < C - f then C - f else 0) := (congrArg Prod.fst e).symm
          have e2 : u = none := (congrArg Prod.snd e).symm
          rw [e1, e2]
          refine ⟨?_, ?_, fun v hv => by cases hv⟩ <;> split <;> omega
end
end Lp

/-! The law itself. -/
namespace Lp
open PySem PySem.Spec PyProof.Rows L2 LpR
/-- if a draw is above a number, either way -/
theorem coin_gt {K : PySem.W.Frag} {σ : L2.St} {H : Hp} {Q : VK} {A B : TE} {r a : Addr} {ns : List Int} {i : Nat} {m z : Int} (h1 : σ[i]? = some (some (.ref r))) (R : RowAt K H r a ns) (hm : 0 < m ∧ m < 1000)
    (hA : ∀ H', SameX r H H' → RowAt K H' r a ns → A σ H' Q) (hB : ∀ H', SameX r H H' → RowAt K H' r a ns → B σ H' Q) :
    tIf (tTest (tOp (rI0 fun i j => V.bl (decide (j < i))) (tCall (sp_Ltaken K) [] E0 (tCons (tVar i) (tCons (tC (.int m)) tNil))) (tC (.int z)))) A B σ H Q := by
  refine ⟨_, h1, r, a, ns, m, rfl, R, hm.1, by omega, fun H1 v x1 R1 _ _ => ⟨_, _, rfl, rfl, _, rfl, ite2 (fun _ => hA H1 x1 R1) (fun _ => hB H1 x1 R1)⟩⟩
theorem dec_int {x y : Int} : decide (V.int x = V.int y) = decide (x = y) := by
  by_cases h : x = y
  · rw [h, decide_eq_true rfl, decide_eq_true rfl]
  · rw [decide_eq_false h, decide_eq_false (fun e => h (V.int.inj e))]
/-- the plan in the frame is a plan -/
structure PlanAt (Z : Pb) (n : Nat) (H : Hp) (c : Addr) : Prop where
  ex : ∃ xs, TI H c xs ∧ PlanOk Z.d xs
theorem keys_plan {Z : Pb} {n : Nat} {H : Hp} {kvs : List (List Key × V)} {cs : List Addr} (wf : Wf Z n) (h : KeysAt Z n H kvs cs) {c : Addr} (hc : c ∈ cs) : PlanAt Z n H c := by
  obtain ⟨T, xs, h1, h2, h3, h4, _⟩ := h.ex c hc
  exact ⟨xs, h4, FilOk.plan wf (setsM_asc n T h1) h2 h3⟩
theorem PlanAt.keepR {K : PySem.W.Frag} {Z : Pb} {n : Nat} {H H' : Hp} {c r a : Addr} {ns : List Int} (h : PlanAt Z n H c) (R : RowAt K H r a ns) (s : SameX r H H') : PlanAt Z n H' c := by
  obtain ⟨xs, h1, h2⟩ := h.ex
  exact ⟨xs, h1.keepR R s, h2⟩
theorem PAt.keepR {K : PySem.W.Frag} {Z : Pb} {H H' : Hp} {p b c d e r a : Addr} {ns : List Int} (h : PAt H p Z b c d e) (R : RowAt K H r a ns) (s : SameX r H H') : PAt H' p Z b c d e := by
  obtain ⟨xs, hr⟩ := R.lst
  exact ⟨s _ _ h.top (ne_of h.top hr (by intro z; cases z)), h.d.keepR R s, h.s.keepR R s, h.u.keepR R s, h.h.keepR R s⟩
theorem dT_keepR {K : PySem.W.Frag} {H H' : Hp} {d r a : Addr} {ns : List Int} {kvs : List (List Key × V)} (h : H d = some (.dT kvs)) (R : RowAt K H r a ns) (s : SameX r H H') : H' d = some (.dT kvs) := by
  obtain ⟨xs, hr⟩ := R.lst
  exact s _ _ h (ne_of h hr (by intro z; cases z))
section
variable {P : Program} {w : World} {K : PySem.W.Frag} {mg : Str → Option Value} {base : Heap}
def sp_law (K : PySem.W.Frag) : Sp := fun vs H Q _ => ∃ (a : Addr) (ns : List Int), vs = [.ref a] ∧ Scr K H a (ns.map V.int) ∧ ∀ H', Q (.bl true) H'
theorem fn_law (T : Txt K mg) {f : Addr} {fd : FuncData} (F : Fun K "law" "law" s_law f fd) : FnOk P w K mg base CX0 6 f fd ["_law_script"] (sp_law K) := by
  obtain ⟨f_Ltaken, fd_Ltaken, G_Ltaken, g_Ltaken, k_Ltaken, b_Ltaken⟩ := ok_Ltaken (P := P) (w := w) (base := base) T
  obtain ⟨f_Lproblem, fd_Lproblem, G_Lproblem, g_Lproblem, k_Lproblem, b_Lproblem⟩ := ok_Lproblem (P := P) (w := w) (base := base) T
  obtain ⟨f_Lintervals, fd_Lintervals, G_Lintervals, g_Lintervals, k_Lintervals, b_Lintervals⟩ := ok_Lintervals (P := P) (w := w) (base := base) T
  obtain ⟨f_Lpick, fd_Lpick, G_Lpick, g_Lpick, k_Lpick, b_Lpick⟩ := ok_Lpick (P := P) (w := w) (base := base) T
  obtain ⟨f_Lanyplan, fd_Lanyplan, G_Lanyplan, g_Lanyplan, k_Lanyplan, b_Lanyplan⟩ := ok_Lanyplan (P := P) (w := w) (base := base) T
  obtain ⟨f_setuprange, fd_setuprange, G_setuprange, g_setuprange, k_setuprange, b_setuprange⟩ := ok_setuprange (P := P) (w := w) (base := base) T
  obtain ⟨f_Lwhole, fd_Lwhole, G_Lwhole, g_Lwhole, k_Lwhole, b_Lwhole⟩ := ok_Lwhole (P := P) (w := w) (base := base) T
  obtain ⟨f_Lwith, fd_Lwith, G_Lwith, g_Lwith, k_Lwith, b_Lwith⟩ := ok_Lwith (P := P) (w := w) (base := base) T
  obtain ⟨f_Lcost, fd_Lcost, G_Lcost, g_Lcost, k_Lcost, b_Lcost⟩ := ok_Lcost (P := P) (w := w) (base := base) T
  obtain ⟨f_Lleast, fd_Lleast, G_Lleast, g_Lleast, k_Lleast, b_Lleast⟩ := ok_Lleast (P := P) (w := w) (base := base) T
  refine F.ok sc_law (fun vs H Q E h => ?_) (fun cdv A outer s H vs Q E hr h => ?_)
  · obtain ⟨a, ns, rfl, _⟩ := h
    rfl
  · obtain ⟨a, ns, rfl, hS, q⟩ := h
    have hu := hu_of hr
    refine ⟨_, (pss_cons (ps_set (i := 1) sc_law.nd rfl (.inl rfl) (pe_lst (pa_cons (pv 0) (pa_cons pe_int (pa_cons pe_int (pa_cons pe_int pa_nil))))))
      (pss_cons (ps_set (i := 2) sc_law.nd rfl (.inl rfl) (pe_op op_add pe_int (pe_call G_Ltaken (hr.mono (by decide)) (by rfl) g_Ltaken k_Ltaken b_Ltaken .nil pass0 (pa_cons (pv 1) (pa_cons pe_int pa_nil)))))
      (pss_cons (ps_set (i := 3) sc_law.nd rfl (.inl rfl) (pe_call G_Lproblem (hr.mono (by decide)) (by rfl) g_Lproblem k_Lproblem b_Lproblem .nil pass0 (pa_cons (pv 1) (pa_cons (pv 2) pa_nil))))
      (pss_cons (ps_set (i := 4) sc_law.nd rfl (.inr rfl) (pe_call G_Lintervals (hr.mono (by decide)) (by rfl) g_Lintervals k_Lintervals b_Lintervals .nil pass0 (pa_cons (pv 3) pa_nil)))
      (C8.pss_cut (ps_set (i := 5) sc_law.nd rfl (.inl rfl) (pe_ifExp (pt_cmpR op_gt (pe_call G_Ltaken (hr.mono (by decide)) (by rfl) g_Ltaken k_Ltaken b_Ltaken .nil pass0 (pa_cons (pv 1) (pa_cons pe_int pa_nil))) pe_int (nomark _)) (pe_call G_Lpick (hr.mono (by decide)) (by rfl) g_Lpick k_Lpick b_Lpick .nil pass0 (pa_cons (pv 1) (pa_cons (pe_callB (cr_sortedD rfl) (by rfl) T.z_sorted (by decide +kernel) (pa_cons (pv 4) pa_nil)) pa_nil))) (pe_call G_Lanyplan (hr.mono (by decide)) (by rfl) g_Lanyplan k_Lanyplan b_Lanyplan .nil pass0 (pa_cons (pv 1) (pa_cons (pe_ix ix_tup (pv 3) pe_int (fun _ _ => rfl)) pa_nil)))))
      (C8.pss_cut (ps_if (pt_cmpR op_eq (pe_call G_Ltaken (hr.mono (by decide)) (by rfl) g_Ltaken k_Ltaken b_Ltaken .nil pass0 (pa_cons (pv 1) (pa_cons pe_int pa_nil))) pe_int (nomark _))
        (pss_cons (ps_set (i := 6) sc_law.nd rfl (.inr rfl) (pe_callB (cr_min rfl) (by rfl) T.z_min (by decide +kernel) (pa_cons (pe_lc (own := [("_law_some", 13)]) (g := gName 13) (tt := tYes) rfl sc_law.nd (pi_list (pe_callB (cr_sortedD rfl) (by rfl) T.z_sorted (by decide +kernel) (pa_cons (pv 4) pa_nil))) (blkOk_by (own := [("_law_some", 13)]) (N := N_law) (sc := defScope s_law) (by decide +kernel)) (fun _ _ _ _ _ => pg_name (i := 13) sc_law.nd rfl (Or.inl rfl)) (fun _ _ _ _ _ => pts_nil) (fun _ _ _ _ _ => (pe_dget hu (pv 4) (pv 13) (fun _ _ => rfl)))) pa_nil)))
          (pss_one (ps_set (i := 5) sc_law.nd rfl (.inl rfl) (pe_ix ix_list (pe_lc (own := [("_law_some", 13)]) (g := gName 13) rfl sc_law.nd (pi_list (pe_callB (cr_sortedD rfl) (by rfl) T.z_sorted (by decide +kernel) (pa_cons (pv 4) pa_nil))) (blkOk_by (own := [("_law_some", 13)]) (N := N_law) (sc := defScope s_law) (by decide +kernel)) (fun _ _ _ _ _ => pg_name (i := 13) sc_law.nd rfl (Or.inl rfl)) (fun _ _ _ _ _ => pts_one (pt_cmpR op_eq (pe_dget hu (pv 4) (pv 13) (fun _ _ => rfl)) (pv 6) (nomark _))) (fun _ _ _ _ _ => (pv 13))) (pe_un un_neg pe_int) (fun _ _ => rfl)))))
        pss_nil)
      (pss_cons (ps_set (i := 7) sc_law.nd rfl (.inl rfl) (pe_call G_Ltaken (hr.mono (by decide)) (by rfl) g_Ltaken k_Ltaken b_Ltaken .nil pass0 (pa_cons (pv 1) (pa_cons (pv 2) pa_nil))))
      (pss_cons (ps_set (i := 8) sc_law.nd rfl (.inl rfl) (pe_call G_setuprange (hr.mono (by decide)) (by rfl) g_setuprange k_setuprange b_setuprange .nil pass0 (pa_cons (pv 3) (pa_cons (pv 5) (pa_cons (pv 7) pa_nil)))))
      (pss_cons (ps_set (i := 9) sc_law.nd rfl (.inl rfl) (pe_lst (pa_cons pe_int (pa_cons pe_int (pa_cons (pe_ix ix_tup (pe_ix ix_tup (pv 3) pe_int (fun _ _ => rfl)) (pv 7) (fun _ _ => rfl)) (pa_cons pe_int (pa_cons pe_int (pa_cons (pe_op op_pow pe_int pe_int) pa_nil))))))))
      (C8.pss_cut (ps_if (pt_cmpR op_notN (pv 8) pe_non (nomark _))
        (pss_cons (ps_if (PW.pt (pw_or (pt_not (pt_val (pe_callB call_isi (by rfl) T.z_isinstance (by decide +kernel) (pa_cons (pv 8) (pa_cons (pe_bltn (v := .ty "tuple") (by rfl) T.z_tuple (by decide +kernel) rfl) pa_nil))))) (pw_or (pt_cmpR op_ne (pe_callB call_len_seq (by rfl) T.z_len PySem.boot_len (pa_cons (pv 8) pa_nil)) pe_int (nomark _)) (pw_or1 (pt_not (pt_val (pe_call G_Lwhole (hr.mono (by decide)) (by rfl) g_Lwhole k_Lwhole b_Lwhole .nil pass0 (pa_cons (pe_ix ix_tup (pv 8) pe_int (fun _ _ => rfl)) (pa_cons pe_int (pa_cons (pe_op op_pow pe_int pe_int) pa_nil))))))))))
            (pss_one (ps_ret pe_bl))
            pss_nil)
          (pss_cons (ps_if (PW.pt (pw_and (pt_cmpR op_notN (pe_ix ix_tup (pv 8) pe_int (fun _ _ => rfl)) pe_non (nomark _)) (pw_and1 (pt_not (pt_val (pe_call G_Lwhole (hr.mono (by decide)) (by rfl) g_Lwhole k_Lwhole b_Lwhole .nil pass0 (pa_cons (pe_ix ix_tup (pv 8) pe_int (fun _ _ => rfl)) (pa_cons (pe_ix ix_tup (pv 8) pe_int (fun _ _ => rfl)) (pa_cons (pe_op op_pow pe_int pe_int) pa_nil)))))))))
            (pss_one (ps_ret pe_bl))
            pss_nil)
          (pss_one (ps_set (i := 9) sc_law.nd rfl (.inl rfl) (pe_op op_cat (pe_op op_cat (pv 9) (pe_lst (pa_cons (pe_ix ix_tup (pv 8) pe_int (fun _ _ => rfl)) (pa_cons (pe_callB (call_max2 rfl) (by rfl) T.z_max (by decide +kernel) (pa_cons pe_int (pa_cons (pe_op op_sub (pe_ix ix_tup (pv 8) pe_int (fun _ _ => rfl)) pe_int) pa_nil))) pa_nil)))) (pe_ifExp (pt_cmpR op_notN (pe_ix ix_tup (pv 8) pe_int (fun _ _ => rfl)) pe_non (nomark _)) (pe_lst (pa_cons (pe_ix ix_tup (pv 8) pe_int (fun _ _ => rfl)) (pa_cons (pe_op op_add (pe_ix ix_tup (pv 8) pe_int (fun _ _ => rfl)) pe_int) pa_nil))) (pe_lst pa_nil)))))))
        pss_nil)
      (pss_cons (ps_for PassesOwn.never rfl (pi_list (pv 9)) (pg_name (i := 10) sc_law.nd rfl (.inl rfl))
        (pss_cons (ps_set (i := 11) sc_law.nd rfl (.inl rfl) (pe_call G_Lwith (hr.mono (by decide)) (by rfl) g_Lwith k_Lwith b_Lwith .nil pass0 (pa_cons (pv 3) (pa_cons (pv 7) (pa_cons (pv 10) pa_nil)))))
          (pss_cons (ps_set (i := 12) sc_law.nd rfl (.inl rfl) (pe_cmpR op_eq (pe_call G_Lcost (hr.mono (by decide)) (by rfl) g_Lcost k_Lcost b_Lcost .nil pass0 (pa_cons (pv 11) (pa_cons (pv 5) pa_nil))) (pe_call G_Lleast (hr.mono (by decide)) (by rfl) g_Lleast k_Lleast b_Lleast .nil pass0 (pa_cons (pv 11) pa_nil)) (nomark _)))
          (pss_one (ps_if (pt_cmpR op_ne (pv 12) (pe_and (pe_cmpR op_notN (pv 8) pe_non (nomark _)) (pe_and (pe_cmpR op_le (pe_ix ix_tup (pv 8) pe_int (fun _ _ => rfl)) (pv 10) (nomark _)) (pe_one (pe_or (pe_cmpR op_isN (pe_ix ix_tup (pv 8) pe_int (fun _ _ => rfl)) pe_non (nomark _)) (pe_one (pe_cmpR op_le (pv 10) (pe_ix ix_tup (pv 8) pe_int (fun _ _ => rfl)) (nomark _))))))) (nomark _))
            (pss_one (ps_ret pe_bl))
            pss_nil)))))
      (pss_one (ps_ret pe_bl))))))))))))), ?_⟩
    -- the row
    refine ⟨_, rfl, len1000 (by show 4 ≤ 1000; omega), fun r nr => ?_⟩
    have R0 : RowAt K (upd H r (.lst [.ref a, .int 0, .int 3334, .int 0])) r a ns := ⟨⟨0, 3334, 0, upd_same, by omega, by omega, by omega⟩, hS.same (same_upd nr)⟩
    -- many
    refine ⟨_, rfl, r, a, ns, 6, rfl, R0, by omega, by omega, fun H1 v x1 R1 v0 v1 => ⟨_, _, rfl, rfl, ?_⟩⟩
    obtain ⟨m0, rfl⟩ : ∃ m0 : Nat, v = (m0 : Int) := ⟨v.toNat, by omega⟩
    have hn6 : 1 + m0 ≤ 6 := by omega
    have hn1 : 1 ≤ 1 + m0 := by omega
    show gName 2 (V.int ((1 + m0 : Nat) : Int)) _ _ _
    generalize 1 + m0 = n at hn6 hn1
    -- the problem
    refine ⟨_, rfl, _, rfl, r, a, ns, n, rfl, R1, hn1, by omega, fun H2 p pa pb pc pe Z x2 R2 hp wf h9 => ?_⟩
    -- the interval plans
    refine ⟨_, rfl, p, pa, pb, pc, pe, Z, n, rfl, hp, wf, hn6, fun H3 d kvs s3 nd hd DK hl => ?_⟩
    have hp3 := hp.same s3
    have R3 := R2.same s3
    have hdr : ∀ {H : Hp}, RowAt K H r a ns → H d = some (.dT kvs) → d ≠ r := fun R h => by
      obtain ⟨xs, hr⟩ := R.lst
      exact ne_of h hr (by intro z; cases z)
    -- the plan
    refine ⟨fun σ H4 => ∃ c, σ = [some (.ref a), some (.ref r), some (.int (n : Int)), some (.ref p), some (.ref d), some (.ref c), none, none, none, none, none, none, none, none] ∧ SameX r H3 H4 ∧ RowAt K H4 r a ns ∧ PlanAt Z n H4 c, ?_, fun σ H4 ⟨c, e', x4, R4, hc⟩ => ?_⟩
    · refine coin_gt rfl R3 ⟨by omega, by omega⟩ (fun H4 x4 R4 => ?_) (fun H4 x4 R4 => ?_)
      · have hd4 := dT_keepR hd R3 x4
        refine ⟨_, rfl, _, rfl, d, kvs, n, 100000, rfl, hd4, hl, wf.n1, fun e he => DK.key wf he, fun o bs cs no hk pm => ?_⟩
        have s5 := same_upd (H := H4) (p := o) (o := .lst (cs.map V.ref)) no
        have KA := (keysAt_of DK hk pm hl).same s5
        obtain ⟨ys, hr4⟩ := R4.lst
        refine ⟨r, a, o, ns, _, rfl, R4.same s5, upd_same, (ne_of_none hr4 no).symm, by rw [List.length_map]; exact KA.pos wf, by rw [List.length_map]; have := KA.len; omega, fun H6 x x6 R6 hx => ?_⟩
        obtain ⟨c, hc, rfl⟩ := List.mem_map.mp hx
        exact ⟨c, rfl, x4.trans ((Same.x s5).trans x6), R6, (keys_plan wf KA hc).keepR (R4.same s5) x6⟩
      · have hp4 := hp3.keepR R3 x4
        refine ⟨_, rfl, _, rfl, p, _, 0, _, rfl, rfl, SqT.of hp4.top, at0, r, a, pa, ns, Z.d, rfl, R4, hp4.d, by rw [wf.ld]; exact wf.n12, wf.bd, fun H6 t xs x6 R6 hT PO => ?_⟩
        exact ⟨t, rfl, x4.trans x6, R6, xs, hT, PO⟩
    subst e'
    have hp4 := hp3.keepR R3 x4
    have hd4 := dT_keepR hd R3 x4
    -- perhaps a plan of the least cost
    refine ⟨fun σ H5 => ∃ c y6 y13, σ = [some (.ref a), some (.ref r), some (.int (n : Int)), some (.ref p), some (.ref d), some (.ref c), y6, none, none, none, none, none, none, y13] ∧ PAt H5 p Z pa pb pc pe ∧ RowAt K H5 r a ns ∧ PlanAt Z n H5 c, ?_, fun σ H5 ⟨c, y6, y13, e', hp5, R5, hc⟩ => ?_⟩
    · refine ⟨_, rfl, r, a, ns, 2, rfl, R4, by omega, by omega, fun H5 v x5 R5 _ _ => ⟨rfl, _, rfl, ite2 (fun _ => ?_) (fun _ => ?_)⟩⟩
      · have hd5 := dT_keepR hd4 R4 x5
        have hp5 := hp4.keepR R4 x5
        refine ⟨_, rfl, d, kvs, n, 100000, rfl, hd5, hl, wf.n1, fun e he => DK.key wf he, fun o bs cs no hk pm => ⟨o, rfl, ⟨_, SqL.of upd_same⟩, fun D hD => ?_⟩⟩
        have s6 := same_upd (H := H5) (p := o) (o := .lst (cs.map V.ref)) no
        have KA := (keysAt_of DK hk pm hl).same s6
        refine lc_list_ints (fun c => cpre Z (rdT (upd H5 o (.lst (cs.map V.ref))) c) n) upd_same (by have := KA.len; omega) hD (fun c H6 R hc s k => ⟨rfl, ?_⟩) (fun H6 s7 hD6 => ?_)
        · obtain ⟨T', xs, h1, h2, h3, h4, h5⟩ := KA.ex c hc
          refine ⟨_, rfl, _, rfl, d, _, rfl, ?_, k H6 (Same.refl _)⟩
          rw [rdT_of h4, ← h5]
          exact DGet.t (k := kk xs) (s _ _ (s6 _ _ hd5)) (by rw [kk_kV]; exact s _ _ h4)
        · refine ⟨D, _, rfl, SqL.of hD6, by rw [List.length_map]; exact KA.pos wf, fun m hm hle => ?_⟩
          have hd6 := s7 _ _ (s6 _ _ hd5)
          refine ⟨_, rfl, d, kvs, n, 100000, rfl, hd6, hl, wf.n1, fun e he => DK.key wf he, fun o2 bs2 cs2 no2 hk2 pm2 => ⟨o2, rfl, ⟨_, SqL.of upd_same⟩, fun D2 hD2 => ?_⟩⟩
          have s8 := same_upd (H := H6) (p := o2) (o := .lst (cs2.map V.ref)) no2
          have KA2 := (keysAt_of DK hk2 pm2 hl).same s8
          have hd8 := s8 _ _ hd6
          generalize hHx : upd H6 o2 (.lst (cs2.map V.ref)) = Hx at s8 KA2 hd8 hD2
          have ho2 : Hx o2 = some (.lst (cs2.map V.ref)) := by rw [← hHx]; exact upd_same
          -- some key has the least cost
          obtain ⟨cm, hcm, hcmv⟩ : ∃ cm ∈ cs2, cpre Z (rdT Hx cm) n = m := by
            obtain ⟨c0, hc0, rfl⟩ := List.mem_map.mp hm
            obtain ⟨T', xs, h1, h2, h3, h4, _⟩ := KA.ex c0 hc0
            obtain ⟨c1, hc1, ys, h5, h6⟩ := KA2.all T' h1 h2
            exact ⟨c1, hc1, by rw [rdT_of h6, rdT_of h4, h5.uniq h3]⟩
          refine lc_list (xs := cs2.map V.ref) (fun i H => i ≤ cs2.length ∧ Same Hx H ∧ ∃ ds : List Addr, H D2 = some (.lst (ds.map V.ref)) ∧ ds.length ≤ i ∧ (∀ b ∈ ds, b ∈ cs2) ∧ ∀ c ∈ cs2.take i, cpre Z (rdT Hx c) n = m → ds ≠ [])
            ⟨Nat.zero_le _, same_upd hD2, [], upd_same, Nat.le_refl _, fun b hb => (by cases hb), fun c hc => (by cases hc)⟩ (fun i H _ ⟨_, sm, _⟩ => SqL.of (sm _ _ ho2)) (fun i x H hi ⟨hle2, sm, ds, hds, hdl, hmem, hne⟩ => ?_) fun H ⟨_, sm, ds, hds, hdl, hmem, hne⟩ => ?_
          · rw [List.getElem?_map] at hi
            obtain ⟨A, ea, rfl⟩ : ∃ A, cs2[i]? = some A ∧ x = .ref A := by
              cases ea : cs2[i]? with
              | none =>
                rw [ea] at hi
                cases hi
              | some A =>
                rw [ea] at hi
                cases hi
                exact ⟨A, rfl, rfl⟩
            have hlt : i < cs2.length := (List.getElem?_eq_some_iff.mp ea).1
            have hA : A ∈ cs2 := List.mem_of_getElem? ea
            obtain ⟨T', xs, h1, h2, h3, h4, h5⟩ := KA2.ex A hA
            have eTake : cs2.take (i + 1) = cs2.take i ++ [A] := by rw [List.take_add_one, ea, Option.toList_some]
            refine ⟨rfl, _, rfl, _, rfl, d, _, rfl, (by rw [← h5]; exact DGet.t (k := kk xs) (sm _ _ hd8) (by rw [kk_kV]; exact sm _ _ h4)), _, rfl, rfl, _, rfl, ?_⟩
            rw [dec_int]
            have hlen64 := KA2.len
            refine ite2 (fun hz => ?_) (fun hz => ?_)
            · refine ⟨_, rfl, _, hds, by rw [List.length_map]; exact small1000 (by omega), hlt, fun b z hz => ?_, ds ++ [A], ?_, by rw [List.length_append]; exact Nat.succ_le_succ hdl, fun b hb => ?_, fun c hc _ => List.append_ne_nil_of_right_ne_nil _ (List.cons_ne_nil _ _)⟩
              · rw [upd_ne (ne_of_none hz hD2)]
                exact sm _ _ hz
              · rw [upd_same, List.map_append]
                rfl
              · rcases List.mem_append.mp hb with hb | hb
                · exact hmem b hb
                · rw [List.mem_singleton.mp hb]
                  exact hA
            · refine ⟨hlt, sm, ds, hds, Nat.le_succ_of_le hdl, hmem, fun c hc hcv => ?_⟩
              rw [eTake] at hc
              rcases List.mem_append.mp hc with hc | hc
              · exact hne c hc hcv
              · rw [List.mem_singleton.mp hc, rdT_of h4] at hcv
                exact absurd (decide_eq_true hcv) hz
          · rw [List.length_map, List.take_length] at hne
            have hds0 := hne cm hcm hcmv
            have hlast : ds[ds.length - 1]? = some (ds.getLast hds0) := by
              rw [← List.getLast?_eq_getElem?]
              exact List.getLast?_eq_getLast hds0
            have hpos : 0 < ds.length := List.length_pos_iff.mpr hds0
            refine ⟨1, rfl, D2, _, _, .ref (ds.getLast hds0), rfl, rfl, SqL.of hds, at_neg1 (n := ds.length - 1) (by rw [List.length_map]; omega) (by rw [List.getElem?_map, hlast]; rfl), ?_⟩
            have sx := (s6.trans s7).trans (s8.trans sm)
            exact ⟨_, _, _, rfl, hp5.same sx, R5.same sx, keys_plan wf (KA2.same sm) (hmem _ (List.getLast_mem hds0))⟩
      · exact ⟨c, _, _, rfl, hp4.keepR R4 x5, R5, hc.keepR R4 x5⟩
    subst e'
    -- the period
    refine ⟨_, rfl, _, rfl, r, a, ns, (n : Int), rfl, R5, by omega, by omega, fun H6 kv x6 R6 k0 k1 => ?_⟩
    obtain ⟨k, rfl⟩ : ∃ k : Nat, kv = (k : Int) := ⟨kv.toNat, by omega⟩
    have hk : k < n := by omega
    have hp6 := hp5.keepR R5 x6
    obtain ⟨xs, hx6, po⟩ := (hc.keepR R5 x6).ex
    -- setup_range
    refine ⟨_, rfl, _, rfl, _, rfl, p, c, pa, pb, pc, pe, Z, n, k, xs, rfl, hp6, wf, h9, hx6, po, hk, fun H7 v wt t rr s7 hw ht hF hv => ?_⟩
    have hp7 := hp6.same s7
    have hx7 := hx6.same s7
    have MI := fun (S m : Int) (hS : 0 ≤ S) (L : LeastOk (setS Z k S) n m) => main_iff wf hk po hw ht hF hS L
    have MB := fun (l : Int) (u : Option Int) h => main_bd (l := l) (u := u) wf hn6 h9 hk po hw ht hF h
    generalize srM (decide (0 < g xs k)) (cpre Z xs n - (if 0 < g xs k then g Z.s k else 0)) (ot wt n) rr = res at hv MI MB
    -- the setups to be tried
    refine ⟨_, rfl, p, _, 1, _, rfl, rfl, SqT.of hp7.top, at1, _, rfl, pb, _, _, _, rfl, rfl, SqT.of hp7.s, g_at (by rw [wf.ls]; exact hk), _, _, rfl, rfl, ⟨by decide, by decide, by decide⟩, len1000 (by show 6 ≤ 1000; omega), fun o no => ?_⟩
    have s8 := same_upd (H := H7) (p := o) (o := .lst (([0, 1, g Z.s k, 5, 40, 10 ^ (7 : Int).toNat] : List Int).map V.int)) no
    have hs0 := wf.s0 hk
    refine ⟨fun σ H8 => ∃ (o : Addr) (ts : List Int) (y6 y13 : Option V), σ = [some (.ref a), some (.ref r), some (.int (n : Int)), some (.ref p), some (.ref d), some (.ref c), y6, some (.int (k : Int)), some v, some (.ref o), none, none, none, y13] ∧ Same H7 H8 ∧ H8 o = some (.lst (ts.map V.int)) ∧ ts.length ≤ 20 ∧ ∀ S ∈ ts, 0 ≤ S, ?_, fun σ H8 ⟨o, ts, y6, y13, e', s8, ho, htl, hts⟩ => ?_⟩
    · have b1 : ∀ S ∈ ([0, 1, g Z.s k, 5, 40, 10 ^ (7 : Int).toNat] : List Int), 0 ≤ S := by
        intro S hS
        rcases List.mem_cons.mp hS with h | hS
        · omega
        rcases List.mem_cons.mp hS with h | hS
        · omega
        rcases List.mem_cons.mp hS with h | hS
        · omega
        rcases List.mem_cons.mp hS with h | hS
        · omega
        rcases List.mem_cons.mp hS with h | hS
        · omega
        rw [List.mem_singleton.mp hS]
        decide
      refine ⟨_, rfl, rfl, _, rfl, ?_⟩
      cases res with
      | none =>
        have hv' : v = .non := hv
        subst hv'
        refine iteF ?_
        exact ⟨o, _, _, _, rfl, s8, upd_same, by show 6 ≤ 20; omega, b1⟩
      | some lu =>
        obtain ⟨l, u⟩ := lu
        obtain ⟨qf, rfl, hq7⟩ := hv
        obtain ⟨l0, l9, ub⟩ := MB l u rfl
        have hq8 := s8 _ _ hq7
        refine iteT ?_
        -- it is a pair, its first part an entry that may be
        refine ⟨_, rfl, _, _, _, _, _, rfl, .ty "tuple", ty_tup hq8, kit_ty kb3, true, rfl, iteF ?_⟩
        refine ⟨_, rfl, qf, _, rfl, .inr (SqT.of hq8), rfl, _, rfl, iteNS rfl ?_⟩
        refine ⟨_, rfl, qf, _, 0, .int l, rfl, rfl, SqT.of hq8, atI_nat (j := 0) rfl, _, _, rfl, rfl, ⟨by decide, by decide, by decide⟩, l, 0, _, rfl, _, rfl, iteNT ?_ ?_⟩
        · rw [decide_eq_true l0, Bool.true_and]
          exact decide_eq_true l9
        -- the second part
        refine ⟨_, rfl, qf, _, 1, oV u, rfl, rfl, SqT.of hq8, atI_nat (j := 1) rfl, rfl, _, rfl, ?_⟩
        have s9 : ∀ {H9 : Hp} {p9 : Addr} {o9 : HO}, H9 p9 = none → Same H9 (upd H9 p9 o9) := fun h => same_upd h
        cases u with
        | none =>
          refine iteF ?_
          refine iteF ?_
          refine ⟨_, rfl, _, rfl, qf, _, 0, .int l, rfl, rfl, SqT.of hq8, atI_nat (j := 0) rfl, _, rfl, qf, _, 0, .int l, rfl, rfl, SqT.of hq8, atI_nat (j := 0) rfl, _, _, rfl, rfl, _, _, rfl, len1000 (by show 2 ≤ 1000; omega), fun o2 no2 => ?_⟩
          have t1 := s9 (o9 := .lst [.int l, .int (if l - 1 > 0 then l - 1 else 0)]) no2
          refine ⟨o, o2, _, _, rfl, rfl, t1 _ _ upd_same, upd_same, len1000 (by show 8 ≤ 1000; omega), fun o3 no3 => ?_⟩
          have t2 := s9 (o9 := .lst (([0, 1, g Z.s k, 5, 40, 10 ^ (7 : Int).toNat] : List Int).map V.int ++ [.int l, .int (if l - 1 > 0 then l - 1 else 0)])) no3
          refine ⟨_, rfl, qf, _, 1, .non, rfl, rfl, SqT.of (t2 _ _ (t1 _ _ hq8)), atI_nat (j := 1) rfl, rfl, _, rfl, iteF ⟨Nat.zero_le _, fun o4 no4 => ?_⟩⟩
          have t3 := s9 (o9 := .lst []) no4
          refine ⟨o3, o4, _, _, rfl, rfl, t3 _ _ upd_same, upd_same, len1000 (by show 8 ≤ 1000; omega), fun o5 no5 => ?_⟩
          refine ⟨o5, [0, 1, g Z.s k, 5, 40, 10 ^ (7 : Int).toNat, l, (if l - 1 > 0 then l - 1 else 0)], _, _, rfl, s8.trans (t1.trans (t2.trans (t3.trans (same_upd no5)))), upd_same, by show 8 ≤ 20; omega, fun S hS => ?_⟩
          rcases List.mem_append.mp (show S ∈ ([0, 1, g Z.s k, 5, 40, 10 ^ (7 : Int).toNat] : List Int) ++ [l, (if l - 1 > 0 then l - 1 else 0)] from hS) with hS | hS
          · exact b1 S hS
          · rcases List.mem_cons.mp hS with h | hS
            · omega
            · rw [List.mem_singleton.mp hS]
              split <;> omega
        | some u =>
          obtain ⟨u0, u9⟩ := ub u rfl
          refine iteT ?_
          refine ⟨_, rfl, qf, _, 1, .int u, rfl, rfl, SqT.of hq8, atI_nat (j := 1) rfl, _, rfl, qf, _, 0, .int l, rfl, rfl, SqT.of hq8, atI_nat (j := 0) rfl, _, _, rfl, rfl, ⟨by decide, by decide, by decide⟩, u, l, _, rfl, _, rfl, iteNT ?_ ?_⟩
          · rw [decide_eq_true u0, Bool.true_and]
            exact decide_eq_true u9
          refine ⟨_, rfl, _, rfl, qf, _, 0, .int l, rfl, rfl, SqT.of hq8, atI_nat (j := 0) rfl, _, rfl, qf, _, 0, .int l, rfl, rfl, SqT.of hq8, atI_nat (j := 0) rfl, _, _, rfl, rfl, _, _, rfl, len1000 (by show 2 ≤ 1000; omega), fun o2 no2 => ?_⟩
          have t1 := s9 (o9 := .lst [.int l, .int (if l - 1 > 0 then l - 1 else 0)]) no2
          refine ⟨o, o2, _, _, rfl, rfl, t1 _ _ upd_same, upd_same, len1000 (by show 8 ≤ 1000; omega), fun o3 no3 => ?_⟩
          have t2 := s9 (o9 := .lst (([0, 1, g Z.s k, 5, 40, 10 ^ (7 : Int).toNat] : List Int).map V.int ++ [.int l, .int (if l - 1 > 0 then l - 1 else 0)])) no3
          have hq10 := t2 _ _ (t1 _ _ hq8)
          refine ⟨_, rfl, qf, _, 1, .int u, rfl, rfl, SqT.of hq10, atI_nat (j := 1) rfl, rfl, _, rfl, iteT ?_⟩
          refine ⟨_, rfl, qf, _, 1, .int u, rfl, rfl, SqT.of hq10, atI_nat (j := 1) rfl, _, rfl, qf, _, 1, .int u, rfl, rfl, SqT.of hq10, atI_nat (j := 1) rfl, _, _, rfl, rfl, len1000 (by show 2 ≤ 1000; omega), fun o4 no4 => ?_⟩
          have t3 := s9 (o9 := .lst [.int u, .int (u + 1)]) no4
          refine ⟨o3, o4, _, _, rfl, rfl, t3 _ _ upd_same, upd_same, len1000 (by show 10 ≤ 1000; omega), fun o5 no5 => ?_⟩
          refine ⟨o5, [0, 1, g Z.s k, 5, 40, 10 ^ (7 : Int).toNat, l, (if l - 1 > 0 then l - 1 else 0), u, u + 1], _, _, rfl, s8.trans (t1.trans (t2.trans (t3.trans (same_upd no5)))), upd_same, by show 10 ≤ 20; omega, fun S hS => ?_⟩
          rcases List.mem_append.mp (show S ∈ ([0, 1, g Z.s k, 5, 40, 10 ^ (7 : Int).toNat] : List Int) ++ [l, (if l - 1 > 0 then l - 1 else 0), u, u + 1] from hS) with hS | hS
          · exact b1 S hS
          · rcases List.mem_cons.mp hS with h | hS
            · omega
            rcases List.mem_cons.mp hS with h | hS
            · rw [h]
              split <;> omega
            rcases List.mem_cons.mp hS with h | hS
            · omega
            · rw [List.mem_singleton.mp hS]
              omega
    subst e'
    -- for each setup
    refine ⟨_, rfl, o, rfl, ⟨_, SqL.of ho⟩, ?_⟩
    refine for_list (K := K) (a := o) (xs := ts.map V.int) (fun i σ H9 => ∃ y6 y10 y11 y12 y13, σ = [some (.ref a), some (.ref r), some (.int (n : Int)), some (.ref p), some (.ref d), some (.ref c), y6, some (.int (k : Int)), some v, some (.ref o), y10, y11, y12, y13] ∧ Same H8 H9)
      ⟨_, _, _, _, _, rfl, Same.refl _⟩ (fun i σ H9 _ ⟨_, _, _, _, _, _, s9⟩ => SqL.of (s9 _ _ ho)) (fun i x σ H9 hi ⟨y6, y10, y11, y12, y13, e', s9⟩ => ?_) (fun σ H9 ⟨y6, y10, y11, y12, y13, e', s9⟩ => q H9)
    subst e'
    have hil : i < ts.length := by
      have := (List.getElem?_eq_some_iff.mp hi).1
      rwa [List.length_map] at this
    rw [List.getElem?_map, g_get hil] at hi
    cases hi
    have hS0 := hts _ (g_mem hil)
    generalize g ts i = S at hS0
    have s79 := s8.trans s9
    have hp9 := hp7.same s79
    -- the problem with this setup; is the plan the least
    refine ⟨_, rfl, _, rfl, _, rfl, p, pa, pb, pc, pe, Z, n, k, S, rfl, hp9, wf, hk, fun H10 p2 b2 s10 hp2 => ?_⟩
    have wf2 := wf.setS (v := S) hk hS0
    refine ⟨_, rfl, _, rfl, p2, c, pa, b2, pc, pe, setS Z k S, n, xs, rfl, hp2, wf2, hx7.same (s79.trans s10), by rw [po.len, wf.ld], fun H11 s11 => ?_⟩
    refine ⟨_, rfl, p2, pa, b2, pc, pe, setS Z k S, n, rfl, hp2.same s11, wf2, hn6, fun H12 m s12 hm => ⟨rfl, ?_⟩⟩
    rw [dec_int, MI S m hS0 hm]
    have s712 := s79.trans (s10.trans (s11.trans s12))
    have fin : Same H8 H12 := s9.trans (s10.trans (s11.trans s12))
    -- what setup_range says of it
    refine ⟨_, rfl, ?_⟩
    cases res with
    | none =>
      have hv' : v = .non := hv
      subst hv'
      refine ⟨_, rfl, rfl, _, rfl, iteF ?_⟩
      exact ⟨rfl, _, rfl, iteNS rfl ⟨_, _, _, _, _, rfl, fin⟩⟩
    | some lu =>
      obtain ⟨l, u⟩ := lu
      obtain ⟨qf, rfl, hq7⟩ := hv
      have hq := s712 _ _ hq7
      refine ⟨_, rfl, rfl, _, rfl, iteT ?_⟩
      refine ⟨_, rfl, qf, _, 0, .int l, rfl, rfl, SqT.of hq, atI_nat (j := 0) rfl, _, rfl, _, _, rfl, rfl, _, rfl, ite2 (fun hl => ?_) (fun hl => ?_)⟩
      · refine ⟨_, rfl, qf, _, 1, oV u, rfl, rfl, SqT.of hq, atI_nat (j := 1) rfl, rfl, _, rfl, ?_⟩
        cases u with
        | none =>
          refine iteT ?_
          refine ⟨rfl, _, rfl, iteNS ?_ ⟨_, _, _, _, _, rfl, fin⟩⟩
          show V.bl (decide (l ≤ S) && true) = V.bl true
          rw [hl]
          rfl
        | some u =>
          refine iteF ?_
          refine ⟨_, rfl, _, rfl, qf, _, 1, .int u, rfl, rfl, SqT.of hq, atI_nat (j := 1) rfl, _, _, rfl, rfl, ?_⟩
          refine ⟨rfl, _, rfl, iteNS ?_ ⟨_, _, _, _, _, rfl, fin⟩⟩
          show V.bl (decide (l ≤ S) && decide (S ≤ u)) = V.bl (decide (S ≤ u))
          rw [hl, Bool.true_and]
      · refine ⟨rfl, _, rfl, iteNS ?_ ⟨_, _, _, _, _, rfl, fin⟩⟩
        have hl' : decide (l ≤ S) = false := Bool.eq_false_iff.mpr hl
        cases u with
        | none =>
          show V.bl (decide (l ≤ S) && true) = V.bl false
          rw [hl']
          rfl
        | some u =>
          show V.bl (decide (l ≤ S) && decide (S ≤ u)) = V.bl false
          rw [hl']
          rfl
end
end Lp

/-! What the top has written, the law's own head. -/
namespace Lp
open PySem PySem.Spec PyProof.Rows L2 LpR
theorem df_mk {K : PySem.W.Frag} {mg : Str → Option Value} {h : Heap} {name : Str} {st : Stmt} {ps : List Str} {f : Addr} {oc : Value} {od an : Option Addr} {osl : Array (Option Value)} {kV doc pm cdv ct : Value} (X : K.In h) (G : h.Ns mainGlobals mg)
    (a : PySem.W.nsIn K mainGlobals name = some (some (.ref f))) (l : K.lookup f = some ⟨oc, od, .func (PySem.W.fnOf name name (defArgs st) (defBody st) (defScope st) .none kV doc pm an cdv ct), osl⟩)
    (c : PySem.W.codeIn K cdv name = true) (k : PySem.W.keepIn K (.ref f) = true)
    (hb : ∀ (kV doc pm : Value) (an : Option Addr) (cdv ct : Value) (us : List Value), us.length = ps.length → bindArgs (PySem.W.fnOf name name (defArgs st) (defBody st) (defScope st) .none kV doc pm an cdv ct) ⟨us, []⟩ = pure (ps.zip us)) : Df K mg name st ps := by
  have F := fun_mk (st := st) l c k
  exact ⟨⟨f, _, F, F.binds hb, PySem.W.mg_of X G a⟩⟩
theorem scr_of {K : PySem.W.Frag} {H : Hp} {a : Addr} {xs : List V} (hO : Only H) (h : SqL K H a xs) : Scr K H a xs := by
  rcases h with (h | h) | h
  · rcases hO a with z | ⟨o, ys, z⟩
    · rw [z] at h
      cases h
    · rw [z] at h
      cases h
  · exact .inl h
  · exact .inr fun _ => .inr h
theorem all_mk {l : PySem.W.OpenLaw} {w : World} {K : PySem.W.Frag} {h : Heap} {mg : Str → Option Value} {fa : Addr} (X : K.In h) (G : h.Ns mainGlobals mg) (hfa : mg "law" = some (.ref fa))
    {f0 : Addr} {od0 an0 : Option Addr} {sl0 : Array (Option Value)} {oc0 kV0 dc0 pm0 cd0 ct0 : Value}
    {f1 : Addr} {od1 an1 : Option Addr} {sl1 : Array (Option Value)} {oc1 kV1 dc1 pm1 cd1 ct1 : Value}
    {f2 : Addr} {od2 an2 : Option Addr} {sl2 : Array (Option Value)} {oc2 kV2 dc2 pm2 cd2 ct2 : Value}
    {f3 : Addr} {od3 an3 : Option Addr} {sl3 : Array (Option Value)} {oc3 kV3 dc3 pm3 cd3 ct3 : Value}
    {f4 : Addr} {od4 an4 : Option Addr} {sl4 : Array (Option Value)} {oc4 kV4 dc4 pm4 cd4 ct4 : Value}
    {f5 : Addr} {od5 an5 : Option Addr} {sl5 : Array (Option Value)} {oc5 kV5 dc5 pm5 cd5 ct5 : Value}
    {f6 : Addr} {od6 an6 : Option Addr} {sl6 : Array (Option Value)} {oc6 kV6 dc6 pm6 cd6 ct6 : Value}
    {f7 : Addr} {od7 an7 : Option Addr} {sl7 : Array (Option Value)} {oc7 kV7 dc7 pm7 cd7 ct7 : Value}
    {f8 : Addr} {od8 an8 : Option Addr} {sl8 : Array (Option Value)} {oc8 kV8 dc8 pm8 cd8 ct8 : Value}
    {f9 : Addr} {od9 an9 : Option Addr} {sl9 : Array (Option Value)} {oc9 kV9 dc9 pm9 cd9 ct9 : Value}
    {f10 : Addr} {od10 an10 : Option Addr} {sl10 : Array (Option Value)} {oc10 kV10 dc10 pm10 cd10 ct10 : Value}
    {f11 : Addr} {od11 an11 : Option Addr} {sl11 : Array (Option Value)} {oc11 kV11 dc11 pm11 cd11 ct11 : Value}
    {f12 : Addr} {od12 an12 : Option Addr} {sl12 : Array (Option Value)} {oc12 kV12 dc12 pm12 cd12 ct12 : Value}
    {f13 : Addr} {od13 an13 : Option Addr} {sl13 : Array (Option Value)} {oc13 kV13 dc13 pm13 cd13 ct13 : Value}
    {f14 : Addr} {od14 an14 : Option Addr} {sl14 : Array (Option Value)} {oc14 kV14 dc14 pm14 cd14 ct14 : Value}
    {f15 : Addr} {od15 an15 : Option Addr} {sl15 : Array (Option Value)} {oc15 kV15 dc15 pm15 cd15 ct15 : Value}
    {f16 : Addr} {od16 an16 : Option Addr} {sl16 : Array (Option Value)} {oc16 kV16 dc16 pm16 cd16 ct16 : Value}
    {f17 : Addr} {od17 an17 : Option Addr} {sl17 : Array (Option Value)} {oc17 kV17 dc17 pm17 cd17 ct17 : Value}
    {f18 : Addr} {od18 an18 : Option Addr} {sl18 : Array (Option Value)} {oc18 kV18 dc18 pm18 cd18 ct18 : Value}
    {f19 : Addr} {od19 an19 : Option Addr} {sl19 : Array (Option Value)} {oc19 kV19 dc19 pm19 cd19 ct19 : Value}
    {f20 : Addr} {od20 an20 : Option Addr} {sl20 : Array (Option Value)} {oc20 kV20 dc20 pm20 cd20 ct20 : Value}
    {f21 : Addr} {od21 an21 : Option Addr} {sl21 : Array (Option Value)} {oc21 kV21 dc21 pm21 cd21 ct21 : Value}
    {f22 : Addr} {od22 an22 : Option Addr} {sl22 : Array (Option Value)} {oc22 kV22 dc22 pm22 cd22 ct22 : Value}
    {f23 : Addr} {od23 an23 : Option Addr} {sl23 : Array (Option Value)} {oc23 kV23 dc23 pm23 cd23 ct23 : Value}
    {f24 : Addr} {od24 an24 : Option Addr} {sl24 : Array (Option Value)} {oc24 kV24 dc24 pm24 cd24 ct24 : Value}
    {f25 : Addr} {od25 an25 : Option Addr} {sl25 : Array (Option Value)} {oc25 kV25 dc25 pm25 cd25 ct25 : Value}
    {f26 : Addr} {od26 an26 : Option Addr} {sl26 : Array (Option Value)} {oc26 kV26 dc26 pm26 cd26 ct26 : Value}
    {f27 : Addr} {od27 an27 : Option Addr} {sl27 : Array (Option Value)} {oc27 kV27 dc27 pm27 cd27 ct27 : Value}
    {f28 : Addr} {od28 an28 : Option Addr} {sl28 : Array (Option Value)} {oc28 kV28 dc28 pm28 cd28 ct28 : Value}
    {f29 : Addr} {od29 an29 : Option Addr} {sl29 : Array (Option Value)} {oc29 kV29 dc29 pm29 cd29 ct29 : Value}
    {f30 : Addr} {od30 an30 : Option Addr} {sl30 : Array (Option Value)} {oc30 kV30 dc30 pm30 cd30 ct30 : Value}
    {t12 t999 : Tok}
    (a0 : PySem.W.nsIn K mainGlobals "is_int" = some (some (.ref f0))) (l0 : K.lookup f0 = some ⟨oc0, od0, .func (PySem.W.fnOf "is_int" "is_int" (defArgs s_isint) (defBody s_isint) (defScope s_isint) .none kV0 dc0 pm0 an0 cd0 ct0), sl0⟩) (c0 : PySem.W.codeIn K cd0 "is_int" = true) (k0 : PySem.W.keepIn K (.ref f0) = true)
    (a1 : PySem.W.nsIn K mainGlobals "is_in" = some (some (.ref f1))) (l1 : K.lookup f1 = some ⟨oc1, od1, .func (PySem.W.fnOf "is_in" "is_in" (defArgs s_isin) (defBody s_isin) (defScope s_isin) .none kV1 dc1 pm1 an1 cd1 ct1), sl1⟩) (c1 : PySem.W.codeIn K cd1 "is_in" = true) (k1 : PySem.W.keepIn K (.ref f1) = true)
    (a2 : PySem.W.nsIn K mainGlobals "need_problem" = some (some (.ref f2))) (l2 : K.lookup f2 = some ⟨oc2, od2, .func (PySem.W.fnOf "need_problem" "need_problem" (defArgs s_needproblem) (defBody s_needproblem) (defScope s_needproblem) .none kV2 dc2 pm2 an2 cd2 ct2), sl2⟩) (c2 : PySem.W.codeIn K cd2 "need_problem" = true) (k2 : PySem.W.keepIn K (.ref f2) = true)
    (a3 : PySem.W.nsIn K mainGlobals "periods_of" = some (some (.ref f3))) (l3 : K.lookup f3 = some ⟨oc3, od3, .func (PySem.W.fnOf "periods_of" "periods_of" (defArgs s_periodsof) (defBody s_periodsof) (defScope s_periodsof) .none kV3 dc3 pm3 an3 cd3 ct3), sl3⟩) (c3 : PySem.W.codeIn K cd3 "periods_of" = true) (k3 : PySem.W.keepIn K (.ref f3) = true)
    (a4 : PySem.W.nsIn K mainGlobals "kept" = some (some (.ref f4))) (l4 : K.lookup f4 = some ⟨oc4, od4, .func (PySem.W.fnOf "kept" "kept" (defArgs s_kept) (defBody s_kept) (defScope s_kept) .none kV4 dc4 pm4 an4 cd4 ct4), sl4⟩) (c4 : PySem.W.codeIn K cd4 "kept" = true) (k4 : PySem.W.keepIn K (.ref f4) = true)
    (a5 : PySem.W.nsIn K mainGlobals "stock_row" = some (some (.ref f5))) (l5 : K.lookup f5 = some ⟨oc5, od5, .func (PySem.W.fnOf "stock_row" "stock_row" (defArgs s_stockrow) (defBody s_stockrow) (defScope s_stockrow) .none kV5 dc5 pm5 an5 cd5 ct5), sl5⟩) (c5 : PySem.W.codeIn K cd5 "stock_row" = true) (k5 : PySem.W.keepIn K (.ref f5) = true)
    (a6 : PySem.W.nsIn K mainGlobals "need_plan" = some (some (.ref f6))) (l6 : K.lookup f6 = some ⟨oc6, od6, .func (PySem.W.fnOf "need_plan" "need_plan" (defArgs s_needplan) (defBody s_needplan) (defScope s_needplan) .none kV6 dc6 pm6 an6 cd6 ct6), sl6⟩) (c6 : PySem.W.codeIn K cd6 "need_plan" = true) (k6 : PySem.W.keepIn K (.ref f6) = true)
    (a7 : PySem.W.nsIn K mainGlobals "need_both" = some (some (.ref f7))) (l7 : K.lookup f7 = some ⟨oc7, od7, .func (PySem.W.fnOf "need_both" "need_both" (defArgs s_needboth) (defBody s_needboth) (defScope s_needboth) .none kV7 dc7 pm7 an7 cd7 ct7), sl7⟩) (c7 : PySem.W.codeIn K cd7 "need_both" = true) (k7 : PySem.W.keepIn K (.ref f7) = true)
    (a8 : PySem.W.nsIn K mainGlobals "cost_of" = some (some (.ref f8))) (l8 : K.lookup f8 = some ⟨oc8, od8, .func (PySem.W.fnOf "cost_of" "cost_of" (defArgs s_costof) (defBody s_costof) (defScope s_costof) .none kV8 dc8 pm8 an8 cd8 ct8), sl8⟩) (c8 : PySem.W.codeIn K cd8 "cost_of" = true) (k8 : PySem.W.keepIn K (.ref f8) = true)
    (a9 : PySem.W.nsIn K mainGlobals "lot_cost" = some (some (.ref f9))) (l9 : K.lookup f9 = some ⟨oc9, od9, .func (PySem.W.fnOf "lot_cost" "lot_cost" (defArgs s_lotcost) (defBody s_lotcost) (defScope s_lotcost) .none kV9 dc9 pm9 an9 cd9 ct9), sl9⟩) (c9 : PySem.W.codeIn K cd9 "lot_cost" = true) (k9 : PySem.W.keepIn K (.ref f9) = true)
    (a10 : PySem.W.nsIn K mainGlobals "stages" = some (some (.ref f10))) (l10 : K.lookup f10 = some ⟨oc10, od10, .func (PySem.W.fnOf "stages" "stages" (defArgs s_stages) (defBody s_stages) (defScope s_stages) .none kV10 dc10 pm10 an10 cd10 ct10), sl10⟩) (c10 : PySem.W.codeIn K cd10 "stages" = true) (k10 : PySem.W.keepIn K (.ref f10) = true)
    (a11 : PySem.W.nsIn K mainGlobals "without" = some (some (.ref f11))) (l11 : K.lookup f11 = some ⟨oc11, od11, .func (PySem.W.fnOf "without" "without" (defArgs s_without) (defBody s_without) (defScope s_without) .none kV11 dc11 pm11 an11 cd11 ct11), sl11⟩) (c11 : PySem.W.codeIn K cd11 "without" = true) (k11 : PySem.W.keepIn K (.ref f11) = true)
    (a12 : PySem.W.nsIn K mainGlobals "with_free" = some (some (.ref f12))) (l12 : K.lookup f12 = some ⟨oc12, od12, .func (PySem.W.fnOf "with_free" "with_free" (defArgs s_withfree) (defBody s_withfree) (defScope s_withfree) .none kV12 dc12 pm12 an12 cd12 ct12), sl12⟩) (c12 : PySem.W.codeIn K cd12 "with_free" = true) (k12 : PySem.W.keepIn K (.ref f12) = true)
    (a13 : PySem.W.nsIn K mainGlobals "need_period" = some (some (.ref f13))) (l13 : K.lookup f13 = some ⟨oc13, od13, .func (PySem.W.fnOf "need_period" "need_period" (defArgs s_needperiod) (defBody s_needperiod) (defScope s_needperiod) .none kV13 dc13 pm13 an13 cd13 ct13), sl13⟩) (c13 : PySem.W.codeIn K cd13 "need_period" = true) (k13 : PySem.W.keepIn K (.ref f13) = true)
    (a14 : PySem.W.nsIn K mainGlobals "forced" = some (some (.ref f14))) (l14 : K.lookup f14 = some ⟨oc14, od14, .func (PySem.W.fnOf "forced" "forced" (defArgs s_forced) (defBody s_forced) (defScope s_forced) .none kV14 dc14 pm14 an14 cd14 ct14), sl14⟩) (c14 : PySem.W.codeIn K cd14 "forced" = true) (k14 : PySem.W.keepIn K (.ref f14) = true)
    (a15 : PySem.W.nsIn K mainGlobals "setup_range" = some (some (.ref f15))) (l15 : K.lookup f15 = some ⟨oc15, od15, .func (PySem.W.fnOf "setup_range" "setup_range" (defArgs s_setuprange) (defBody s_setuprange) (defScope s_setuprange) .none kV15 dc15 pm15 an15 cd15 ct15), sl15⟩) (c15 : PySem.W.codeIn K cd15 "setup_range" = true) (k15 : PySem.W.keepIn K (.ref f15) = true)
    (a16 : PySem.W.nsIn K mainGlobals "_law_taken" = some (some (.ref f16))) (l16 : K.lookup f16 = some ⟨oc16, od16, .func (PySem.W.fnOf "_law_taken" "_law_taken" (defArgs s_Ltaken) (defBody s_Ltaken) (defScope s_Ltaken) .none kV16 dc16 pm16 an16 cd16 ct16), sl16⟩) (c16 : PySem.W.codeIn K cd16 "_law_taken" = true) (k16 : PySem.W.keepIn K (.ref f16) = true)
    (a17 : PySem.W.nsIn K mainGlobals "_law_pick" = some (some (.ref f17))) (l17 : K.lookup f17 = some ⟨oc17, od17, .func (PySem.W.fnOf "_law_pick" "_law_pick" (defArgs s_Lpick) (defBody s_Lpick) (defScope s_Lpick) .none kV17 dc17 pm17 an17 cd17 ct17), sl17⟩) (c17 : PySem.W.codeIn K cd17 "_law_pick" = true) (k17 : PySem.W.keepIn K (.ref f17) = true)
    (a18 : PySem.W.nsIn K mainGlobals "_law_whole" = some (some (.ref f18))) (l18 : K.lookup f18 = some ⟨oc18, od18, .func (PySem.W.fnOf "_law_whole" "_law_whole" (defArgs s_Lwhole) (defBody s_Lwhole) (defScope s_Lwhole) .none kV18 dc18 pm18 an18 cd18 ct18), sl18⟩) (c18 : PySem.W.codeIn K cd18 "_law_whole" = true) (k18 : PySem.W.keepIn K (.ref f18) = true)
    (a19 : PySem.W.nsIn K mainGlobals "_law_entries" = some (some (.ref f19))) (l19 : K.lookup f19 = some ⟨oc19, od19, .func (PySem.W.fnOf "_law_entries" "_law_entries" (defArgs s_Lentries) (defBody s_Lentries) (defScope s_Lentries) .none kV19 dc19 pm19 an19 cd19 ct19), sl19⟩) (c19 : PySem.W.codeIn K cd19 "_law_entries" = true) (k19 : PySem.W.keepIn K (.ref f19) = true)
    (a20 : PySem.W.nsIn K mainGlobals "_law_steps" = some (some (.ref f20))) (l20 : K.lookup f20 = some ⟨oc20, od20, .func (PySem.W.fnOf "_law_steps" "_law_steps" (defArgs s_Lsteps) (defBody s_Lsteps) (defScope s_Lsteps) .none kV20 dc20 pm20 an20 cd20 ct20), sl20⟩) (c20 : PySem.W.codeIn K cd20 "_law_steps" = true) (k20 : PySem.W.keepIn K (.ref f20) = true)
    (a21 : PySem.W.nsIn K mainGlobals "_law_problem" = some (some (.ref f21))) (l21 : K.lookup f21 = some ⟨oc21, od21, .func (PySem.W.fnOf "_law_problem" "_law_problem" (defArgs s_Lproblem) (defBody s_Lproblem) (defScope s_Lproblem) .none kV21 dc21 pm21 an21 cd21 ct21), sl21⟩) (c21 : PySem.W.codeIn K cd21 "_law_problem" = true) (k21 : PySem.W.keepIn K (.ref f21) = true)
    (a22 : PySem.W.nsIn K mainGlobals "_law_row" = some (some (.ref f22))) (l22 : K.lookup f22 = some ⟨oc22, od22, .func (PySem.W.fnOf "_law_row" "_law_row" (defArgs s_Lrow) (defBody s_Lrow) (defScope s_Lrow) .none kV22 dc22 pm22 an22 cd22 ct22), sl22⟩) (c22 : PySem.W.codeIn K cd22 "_law_row" = true) (k22 : PySem.W.keepIn K (.ref f22) = true)
    (a23 : PySem.W.nsIn K mainGlobals "_law_cost" = some (some (.ref f23))) (l23 : K.lookup f23 = some ⟨oc23, od23, .func (PySem.W.fnOf "_law_cost" "_law_cost" (defArgs s_Lcost) (defBody s_Lcost) (defScope s_Lcost) .none kV23 dc23 pm23 an23 cd23 ct23), sl23⟩) (c23 : PySem.W.codeIn K cd23 "_law_cost" = true) (k23 : PySem.W.keepIn K (.ref f23) = true)
    (a24 : PySem.W.nsIn K mainGlobals "_law_sets" = some (some (.ref f24))) (l24 : K.lookup f24 = some ⟨oc24, od24, .func (PySem.W.fnOf "_law_sets" "_law_sets" (defArgs s_Lsets) (defBody s_Lsets) (defScope s_Lsets) .none kV24 dc24 pm24 an24 cd24 ct24), sl24⟩) (c24 : PySem.W.codeIn K cd24 "_law_sets" = true) (k24 : PySem.W.keepIn K (.ref f24) = true)
    (a25 : PySem.W.nsIn K mainGlobals "_law_filled" = some (some (.ref f25))) (l25 : K.lookup f25 = some ⟨oc25, od25, .func (PySem.W.fnOf "_law_filled" "_law_filled" (defArgs s_Lfilled) (defBody s_Lfilled) (defScope s_Lfilled) .none kV25 dc25 pm25 an25 cd25 ct25), sl25⟩) (c25 : PySem.W.codeIn K cd25 "_law_filled" = true) (k25 : PySem.W.keepIn K (.ref f25) = true)
    (a26 : PySem.W.nsIn K mainGlobals "_law_intervals" = some (some (.ref f26))) (l26 : K.lookup f26 = some ⟨oc26, od26, .func (PySem.W.fnOf "_law_intervals" "_law_intervals" (defArgs s_Lintervals) (defBody s_Lintervals) (defScope s_Lintervals) .none kV26 dc26 pm26 an26 cd26 ct26), sl26⟩) (c26 : PySem.W.codeIn K cd26 "_law_intervals" = true) (k26 : PySem.W.keepIn K (.ref f26) = true)
    (a27 : PySem.W.nsIn K mainGlobals "_law_least" = some (some (.ref f27))) (l27 : K.lookup f27 = some ⟨oc27, od27, .func (PySem.W.fnOf "_law_least" "_law_least" (defArgs s_Lleast) (defBody s_Lleast) (defScope s_Lleast) .none kV27 dc27 pm27 an27 cd27 ct27), sl27⟩) (c27 : PySem.W.codeIn K cd27 "_law_least" = true) (k27 : PySem.W.keepIn K (.ref f27) = true)
    (a28 : PySem.W.nsIn K mainGlobals "_law_any_plan" = some (some (.ref f28))) (l28 : K.lookup f28 = some ⟨oc28, od28, .func (PySem.W.fnOf "_law_any_plan" "_law_any_plan" (defArgs s_Lanyplan) (defBody s_Lanyplan) (defScope s_Lanyplan) .none kV28 dc28 pm28 an28 cd28 ct28), sl28⟩) (c28 : PySem.W.codeIn K cd28 "_law_any_plan" = true) (k28 : PySem.W.keepIn K (.ref f28) = true)
    (a29 : PySem.W.nsIn K mainGlobals "_law_with" = some (some (.ref f29))) (l29 : K.lookup f29 = some ⟨oc29, od29, .func (PySem.W.fnOf "_law_with" "_law_with" (defArgs s_Lwith) (defBody s_Lwith) (defScope s_Lwith) .none kV29 dc29 pm29 an29 cd29 ct29), sl29⟩) (c29 : PySem.W.codeIn K cd29 "_law_with" = true) (k29 : PySem.W.keepIn K (.ref f29) = true)
    (a30 : PySem.W.nsIn K mainGlobals "law" = some (some (.ref f30))) (l30 : K.lookup f30 = some ⟨oc30, od30, .func (PySem.W.fnOf "law" "law" (defArgs s_law) (defBody s_law) (defScope s_law) .none kV30 dc30 pm30 an30 cd30 ct30), sl30⟩) (c30 : PySem.W.codeIn K cd30 "law" = true) (k30 : PySem.W.keepIn K (.ref f30) = true)
    (z_all : PySem.W.nsIn K mainGlobals "all" = some none)
    (z_any : PySem.W.nsIn K mainGlobals "any" = some none)
    (z_bool : PySem.W.nsIn K mainGlobals "bool" = some none)
    (z_enumerate : PySem.W.nsIn K mainGlobals "enumerate" = some none)
    (z_int : PySem.W.nsIn K mainGlobals "int" = some none)
    (z_isinstance : PySem.W.nsIn K mainGlobals "isinstance" = some none)
    (z_len : PySem.W.nsIn K mainGlobals "len" = some none)
    (z_max : PySem.W.nsIn K mainGlobals "max" = some none)
    (z_min : PySem.W.nsIn K mainGlobals "min" = some none)
    (z_range : PySem.W.nsIn K mainGlobals "range" = some none)
    (z_sorted : PySem.W.nsIn K mainGlobals "sorted" = some none)
    (z_sum : PySem.W.nsIn K mainGlobals "sum" = some none)
    (z_tuple : PySem.W.nsIn K mainGlobals "tuple" = some none)
    (z_zip : PySem.W.nsIn K mainGlobals "zip" = some none)
    (mp : PySem.W.nsIn K mainGlobals "MOST_PERIODS" = some (some (.int 12 t12))) (me : PySem.W.nsIn K mainGlobals "MOST_ENTRY" = some (some (.int 999 t999))) :
    ∃ fd : FuncData, (∀ (s : Shared) (v : Value), BindsTo s fd ⟨[v], []⟩ [("_law_script", v)]) ∧ ∀ base : Heap, K.In base → base.Ns mainGlobals mg → FnOk l.prog w K mg base CX0 6 fa fd ["_law_script"] (sp_law K) := by
  have e := hfa.symm.trans (PySem.W.mg_of X G a30)
  cases e
  have T : Txt K mg := {
    z_all := PySem.W.mg_none_of X G z_all
    z_any := PySem.W.mg_none_of X G z_any
    z_bool := PySem.W.mg_none_of X G z_bool
    z_enumerate := PySem.W.mg_none_of X G z_enumerate
    z_int := PySem.W.mg_none_of X G z_int
    z_isinstance := PySem.W.mg_none_of X G z_isinstance
    z_len := PySem.W.mg_none_of X G z_len
    z_max := PySem.W.mg_none_of X G z_max
    z_min := PySem.W.mg_none_of X G z_min
    z_range := PySem.W.mg_none_of X G z_range
    z_sorted := PySem.W.mg_none_of X G z_sorted
    z_sum := PySem.W.mg_none_of X G z_sum
    z_tuple := PySem.W.mg_none_of X G z_tuple
    z_zip := PySem.W.mg_none_of X G z_zip
    mp := ⟨_, PySem.W.mg_of X G mp⟩
    me := ⟨_, PySem.W.mg_of X G me⟩
    d_isint := df_mk X G a0 l0 c0 k0 fun _ _ _ _ _ _ us hl => match us, hl with | [_], _ => rfl
    d_isin := df_mk X G a1 l1 c1 k1 fun _ _ _ _ _ _ us hl => match us, hl with | [_, _, _], _ => rfl
    d_needproblem := df_mk X G a2 l2 c2 k2 fun _ _ _ _ _ _ us hl => match us, hl with | [_], _ => rfl
    d_periodsof := df_mk X G a3 l3 c3 k3 fun _ _ _ _ _ _ us hl => match us, hl with | [_], _ => rfl
    d_kept := df_mk X G a4 l4 c4 k4 fun _ _ _ _ _ _ us hl => match us, hl with | [_, _, _], _ => rfl
    d_stockrow := df_mk X G a5 l5 c5 k5 fun _ _ _ _ _ _ us hl => match us, hl with | [_, _], _ => rfl
    d_needplan := df_mk X G a6 l6 c6 k6 fun _ _ _ _ _ _ us hl => match us, hl with | [_, _], _ => rfl
    d_needboth := df_mk X G a7 l7 c7 k7 fun _ _ _ _ _ _ us hl => match us, hl with | [_, _], _ => rfl
    d_costof := df_mk X G a8 l8 c8 k8 fun _ _ _ _ _ _ us hl => match us, hl with | [_, _], _ => rfl
    d_lotcost := df_mk X G a9 l9 c9 k9 fun _ _ _ _ _ _ us hl => match us, hl with | [_, _, _], _ => rfl
    d_stages := df_mk X G a10 l10 c10 k10 fun _ _ _ _ _ _ us hl => match us, hl with | [_], _ => rfl
    d_without := df_mk X G a11 l11 c11 k11 fun _ _ _ _ _ _ us hl => match us, hl with | [_, _], _ => rfl
    d_withfree := df_mk X G a12 l12 c12 k12 fun _ _ _ _ _ _ us hl => match us, hl with | [_, _], _ => rfl
    d_needperiod := df_mk X G a13 l13 c13 k13 fun _ _ _ _ _ _ us hl => match us, hl with | [_, _], _ => rfl
    d_forced := df_mk X G a14 l14 c14 k14 fun _ _ _ _ _ _ us hl => match us, hl with | [_, _], _ => rfl
    d_setuprange := df_mk X G a15 l15 c15 k15 fun _ _ _ _ _ _ us hl => match us, hl with | [_, _, _], _ => rfl
    d_Ltaken := df_mk X G a16 l16 c16 k16 fun _ _ _ _ _ _ us hl => match us, hl with | [_, _], _ => rfl
    d_Lpick := df_mk X G a17 l17 c17 k17 fun _ _ _ _ _ _ us hl => match us, hl with | [_, _], _ => rfl
    d_Lwhole := df_mk X G a18 l18 c18 k18 fun _ _ _ _ _ _ us hl => match us, hl with | [_, _, _], _ => rfl
    d_Lentries := df_mk X G a19 l19 c19 k19 fun _ _ _ _ _ _ us hl => match us, hl with | [_, _, _], _ => rfl
    d_Lsteps := df_mk X G a20 l20 c20 k20 fun _ _ _ _ _ _ us hl => match us, hl with | [_, _, _], _ => rfl
    d_Lproblem := df_mk X G a21 l21 c21 k21 fun _ _ _ _ _ _ us hl => match us, hl with | [_, _], _ => rfl
    d_Lrow := df_mk X G a22 l22 c22 k22 fun _ _ _ _ _ _ us hl => match us, hl with | [_, _], _ => rfl
    d_Lcost := df_mk X G a23 l23 c23 k23 fun _ _ _ _ _ _ us hl => match us, hl with | [_, _], _ => rfl
    d_Lsets := df_mk X G a24 l24 c24 k24 fun _ _ _ _ _ _ us hl => match us, hl with | [_], _ => rfl
    d_Lfilled := df_mk X G a25 l25 c25 k25 fun _ _ _ _ _ _ us hl => match us, hl with | [_, _], _ => rfl
    d_Lintervals := df_mk X G a26 l26 c26 k26 fun _ _ _ _ _ _ us hl => match us, hl with | [_], _ => rfl
    d_Lleast := df_mk X G a27 l27 c27 k27 fun _ _ _ _ _ _ us hl => match us, hl with | [_], _ => rfl
    d_Lanyplan := df_mk X G a28 l28 c28 k28 fun _ _ _ _ _ _ us hl => match us, hl with | [_, _], _ => rfl
    d_Lwith := df_mk X G a29 l29 c29 k29 fun _ _ _ _ _ _ us hl => match us, hl with | [_, _, _], _ => rfl
    d_law := df_mk X G a30 l30 c30 k30 fun _ _ _ _ _ _ us hl => match us, hl with | [_], _ => rfl
  }
  have F := fun_mk (st := s_law) l30 c30 k30
  exact ⟨PySem.W.fnOf "law" "law" (defArgs s_law) (defBody s_law) (defScope s_law) .none kV30 dc30 pm30 an30 cd30 ct30, fun s v => .of_eq rfl, fun base _ _ => fn_law T F⟩
end Lp
open PySem PySem.W PyProof.Rows
set_option maxRecDepth 100000 in
set_option maxHeartbeats 0 in
theorem PySem.Challenge.cw_lotplans_k34_whole_setup_ranges_holds : PySem.Challenge.rw_lotplans_k34_whole_setup_ranges.Holds := by
  w_on; o_law; k_head; (case hw => w_witness2)
  k_fill
  refine L2.walk_of (l := PySem.Challenge.rw_lotplans_k34_whole_setup_ranges) (n := 63) (k := 6) (x := "_law_script") (CX := fun _ => L2.CX0) (sp := fun w => Lp.sp_law _) rfl (by decide) rfl ⟨rfl, by decide, by decide⟩ (fun w h Y => PySem.W.kIn_of Y) ?F (fun _ H a ns _ hO hS => ⟨a, ns, rfl, Lp.scr_of hO hS, fun _ => rfl⟩) (fun _ _ _ _ _ h => h)
  case F =>
    intro w mg fa h KX G hmg
    refine' Lp.all_mk KX G hmg ?a0 ?l0 ?c0 ?k0 ?a1 ?l1 ?c1 ?k1 ?a2 ?l2 ?c2 ?k2 ?a3 ?l3 ?c3 ?k3 ?a4 ?l4 ?c4 ?k4 ?a5 ?l5 ?c5 ?k5 ?a6 ?l6 ?c6 ?k6 ?a7 ?l7 ?c7 ?k7 ?a8 ?l8 ?c8 ?k8 ?a9 ?l9 ?c9 ?k9 ?a10 ?l10 ?c10 ?k10 ?a11 ?l11 ?c11 ?k11 ?a12 ?l12 ?c12 ?k12 ?a13 ?l13 ?c13 ?k13 ?a14 ?l14 ?c14 ?k14 ?a15 ?l15 ?c15 ?k15 ?a16 ?l16 ?c16 ?k16 ?a17 ?l17 ?c17 ?k17 ?a18 ?l18 ?c18 ?k18 ?a19 ?l19 ?c19 ?k19 ?a20 ?l20 ?c20 ?k20 ?a21 ?l21 ?c21 ?k21 ?a22 ?l22 ?c22 ?k22 ?a23 ?l23 ?c23 ?k23 ?a24 ?l24 ?c24 ?k24 ?a25 ?l25 ?c25 ?k25 ?a26 ?l26 ?c26 ?k26 ?a27 ?l27 ?c27 ?k27 ?a28 ?l28 ?c28 ?k28 ?a29 ?l29 ?c29 ?k29 ?a30 ?l30 ?c30 ?k30 ?z_all ?z_any ?z_bool ?z_enumerate ?z_int ?z_isinstance ?z_len ?z_max ?z_min ?z_range ?z_sorted ?z_sum ?z_tuple ?z_zip ?mp ?me
    (case a0 => k_is); (case l0 => k_is); (case c0 => k_is); (case k0 => k_is); (case a1 => k_is); (case l1 => k_is); (case c1 => k_is); (case k1 => k_is)
    (case a2 => k_is); (case l2 => k_is); (case c2 => k_is); (case k2 => k_is); (case a3 => k_is); (case l3 => k_is); (case c3 => k_is); (case k3 => k_is)
    (case a4 => k_is); (case l4 => k_is); (case c4 => k_is); (case k4 => k_is); (case a5 => k_is); (case l5 => k_is); (case c5 => k_is); (case k5 => k_is)
    (case a6 => k_is); (case l6 => k_is); (case c6 => k_is); (case k6 => k_is); (case a7 => k_is); (case l7 => k_is); (case c7 => k_is); (case k7 => k_is)
    (case a8 => k_is); (case l8 => k_is); (case c8 => k_is); (case k8 => k_is); (case a9 => k_is); (case l9 => k_is); (case c9 => k_is); (case k9 => k_is)
    (case a10 => k_is); (case l10 => k_is); (case c10 => k_is); (case k10 => k_is); (case a11 => k_is); (case l11 => k_is); (case c11 => k_is); (case k11 => k_is)
    (case a12 => k_is); (case l12 => k_is); (case c12 => k_is); (case k12 => k_is); (case a13 => k_is); (case l13 => k_is); (case c13 => k_is); (case k13 => k_is)
    (case a14 => k_is); (case l14 => k_is); (case c14 => k_is); (case k14 => k_is); (case a15 => k_is); (case l15 => k_is); (case c15 => k_is); (case k15 => k_is)
    (case a16 => k_is); (case l16 => k_is); (case c16 => k_is); (case k16 => k_is); (case a17 => k_is); (case l17 => k_is); (case c17 => k_is); (case k17 => k_is)
    (case a18 => k_is); (case l18 => k_is); (case c18 => k_is); (case k18 => k_is); (case a19 => k_is); (case l19 => k_is); (case c19 => k_is); (case k19 => k_is)
    (case a20 => k_is); (case l20 => k_is); (case c20 => k_is); (case k20 => k_is); (case a21 => k_is); (case l21 => k_is); (case c21 => k_is); (case k21 => k_is)
    (case a22 => k_is); (case l22 => k_is); (case c22 => k_is); (case k22 => k_is); (case a23 => k_is); (case l23 => k_is); (case c23 => k_is); (case k23 => k_is)
    (case a24 => k_is); (case l24 => k_is); (case c24 => k_is); (case k24 => k_is); (case a25 => k_is); (case l25 => k_is); (case c25 => k_is); (case k25 => k_is)
    (case a26 => k_is); (case l26 => k_is); (case c26 => k_is); (case k26 => k_is); (case a27 => k_is); (case l27 => k_is); (case c27 => k_is); (case k27 => k_is)
    (case a28 => k_is); (case l28 => k_is); (case c28 => k_is); (case k28 => k_is); (case a29 => k_is); (case l29 => k_is); (case c29 => k_is); (case k29 => k_is)
    (case a30 => k_is); (case l30 => k_is); (case c30 => k_is); (case k30 => k_is); (case z_all => k_is); (case z_any => k_is); (case z_bool => k_is); (case z_enumerate => k_is)
    (case z_int => k_is); (case z_isinstance => k_is); (case z_len => k_is); (case z_max => k_is); (case z_min => k_is); (case z_range => k_is); (case z_sorted => k_is); (case z_sum => k_is)
    (case z_tuple => k_is); (case z_zip => k_is); (case mp => k_is); (case me => k_is)

