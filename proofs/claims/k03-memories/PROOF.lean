import PyProof.Rows.All
import Wide.All
import OpenK.AllK
import Wide.FinOn
import HandS.ForMost
import HandS.AnyAll
import HandS.EndTab
import HandS.Deep
import HandS.SortRule
import HandS.IsInst
import HandS.Walk
import KE.GoesEnum
import KE.KDictKeyed
import KE.KDictLaw
import KE.KNestM
import PySem.Challenge.RW_relaybanks_k03_whole_memories_of_relays
set_option Elab.async false
set_option linter.all false
set_option maxRecDepth 100000
set_option maxHeartbeats 2400000
namespace K03
open L2 PySem PySem.Spec PyProof.Rows

/-! ### enumerate over whatever begins an iterator: n new pairs (0, f 0), (1, f 1), .., while G stands -/
def YE (f : Nat → V) : Nat → Hp → V → Hp → Prop := fun i H v H' => ∃ T, v = .ref T ∧ H T = none ∧ H' = upd H T (.tup [.int (i : Nat), f i])
def ItE (n : Nat) (f : Nat → V) (G : Hp → Prop) : It := ⟨fun i H => i < n ∧ G H, YE f, fun i H => i = n ∧ G H⟩
theorem walk_E {n : Nat} {f : Nat → V} {G : Hp → Prop} : Walk (ItE n f G) n G (YE f) where
  goes := fun _ _ hi g => ⟨hi, g⟩
  stops := fun _ g => ⟨rfl, g⟩
  yields := fun _ _ _ _ _ _ y => y
/-- what is known of the iterator behind it: o, the new object; S, its state at its turns -/
structure Src (P : Program) (w : World) (K : PySem.W.Frag) (u : Value) (n : Nat) (f : Nat → V) (G : Hp → Prop) where
  o : Obj
  C : Heap → Prop
  S : Addr → Nat → Heap → Prop
  beg : Begins u o C
  can : ∀ {X : Cx} {pins : List (Addr × Obj)} {σ : L2.St} {H : Hp} {s : Shared}, X.prog = P → X.w = w → X.K = K → Inv X pins σ H s → G H → C s.heap
  new : ∀ it h, h.get? it = some o → S it 0 h
  own : ∀ it i h, S it i h → ∃ ob, h.get? it = some ob ∧ ∀ v, ob.data ≠ .cell v
  stay : ∀ it i h h', S it i h → (∀ ob, h.get? it = some ob → h'.get? it = some ob) → S it i h'
  draw : ∀ {X : Cx} {pins : List (Addr × Obj)} {σ : L2.St} {H : Hp} {s : Shared} {e it : Addr} {i : Nat}, X.prog = P → X.w = w → X.K = K → X.calm = true → Inv X pins σ H s → G H → S it i s.heap →
    (∃ c old, IsEnum s.heap e it c old) → e ≠ it → ∃ fp Pr St, Draws P w X.A.in1 it fp n Pr St ∧ it ∈ fp ∧ e ∉ fp ∧ St i s.heap ∧ (∀ j h, St j h → S it j h) ∧ ∀ v, Pr i v → RelV (f i) v
section
variable {P : Program} {w : World} {K : PySem.W.Frag} {elts : List Expr} {kk : Nat} {tpos : Pos} {u : Value} {n : Nat} {f : Nat → V} {G : Hp → Prop}
theorem Src.turn (R : Src P w K u n f G) {e it : Addr} (ne : e ≠ it) :
    Turn P w K (.Tuple elts kk tpos) (ItE n f G) [e, it] e fun i h => (∃ old, IsEnum h e it (i : Int) old) ∧ R.S it i h where
  mem := List.mem_cons_self
  obj := fun i h ⟨⟨old, he⟩, st⟩ b hb => by
    rw [List.mem_cons, List.mem_singleton] at hb
    rcases hb with rfl | rfl
    · exact ⟨_, he, nofun⟩
    · exact R.own _ _ _ st
  keep := fun i h h' ⟨⟨old, he⟩, st⟩ k => ⟨⟨old, k e List.mem_cons_self _ he⟩, R.stay _ _ _ _ st (k it (by simp))⟩
  item := by
    rintro X rfl rfl rfl calm i pins s σ H E I mine ⟨⟨old, he⟩, st⟩ ⟨lt, g⟩
    obtain ⟨fp, Pr, St, D, in1, out, st', back, rel⟩ := R.draw rfl rfl rfl calm I g st ⟨_, _, he⟩ ne
    have W := WalksT.enumerateD D e ne out in1
    refine W.item i s _ _ lt ⟨⟨old, he⟩, st'⟩ fun T vals h1 tk hv le tup mid k1 => ⟨_, rfl, ?_⟩
    have fresh := W.apart i T h1 mid
    refine W.go elts kk tpos i T { s with heap := h1, toks := tk } _ _ mid fun h2 st2 k2 => ?_
    obtain ⟨t, x, hx, rfl⟩ := hv
    have laid : ObjOk X.prog X.w (upd H T (.tup [.int (i : Nat), f i])) h2 T (.tup [.int (i : Nat), f i]) :=
      ⟨(by decide : 2 ≤ sizeLine), [.int i t, x], .cons ⟨t, rfl⟩ (.cons (rel x hx) .nil), tup.at fun ob => k2 T ob fresh⟩
    exact ⟨.ref T, _, I.turnedNew (fun b ob nb q => k2 b ob nb (k1 b ob nb q)) mine le laid, rfl, ⟨T, rfl, I.hok.fresh le, rfl⟩, ⟨st2.1, back _ _ st2.2⟩,
      fun b hb => (upd_ne (a := T) fun z : b = T => fresh (z ▸ hb)).trans (mine b hb).1⟩
  done := by
    rintro X rfl rfl rfl calm i pins s σ H E I mine ⟨⟨old, he⟩, st⟩ ⟨rfl, g⟩
    obtain ⟨fp, Pr, St, D, in1, out, st', -, -⟩ := R.draw rfl rfl rfl calm I g st ⟨_, _, he⟩ ne
    exact (WalksT.enumerateD D e ne out in1).done s _ _ ⟨⟨old, he⟩, st'⟩ fun h1 tk k1 => ⟨rfl, I.turnedL k1 mine⟩
  self := fun A i s Q E ⟨⟨_, he⟩, _⟩ q => wpAny_pyIter_enum he q
end
/-- the new enumerate, with no start: its iterator o, then itself -/
def enumObj (it : Addr) : Obj := { cls := .type "enumerate", data := .fields #[.none, .bool false, .ref it, rawInt 0, .none, .none] }
theorem meets_E {v : Value} {o : Obj} {C : Heap → Prop} (B : Begins v o C) :
    Meets (Builtin.«enumerate.__new__» ⟨[.type "enumerate", v], []⟩) fun _ R s => C s.heap ∧ R (.ok (.ret (.ref (s.heap.push o).objs.size))) { s with heap := (s.heap.push o).push (enumObj s.heap.objs.size) } :=
  .of_wp fun prog w A R ⟨hp, gens, drawn, toks, os⟩ ⟨can, fin⟩ => by
    have same := sub_enumerate
    have step : ∀ {A' : Around} {E Q : Value → Shared → Prop}, Q (.ref hp.objs.size) ⟨hp.push o, gens, drawn, toks, os⟩ → wpAny (model prog w) A' (pyIter v) Q E ⟨hp, gens, drawn, toks, os⟩ := fun q => B.iter _ _ _ _ _ _ can q
    wp_walk using step
    refine wpAny_stack_any fun _ => wpAny_pure ?_
    split
    case' h_1 c _ _ _ _ _ => cases c == Value.type "enumerate"
    all_goals (wp_walk using step; exact ⟨_, rfl, fin⟩)
theorem call_E {prog : Program} {w : World} {A : Around} {E Q : Value → Shared → Prop} {s : Shared} {v : Value} {o : Obj} {C : Heap → Prop} (B : Begins v o C) (can : C s.heap)
    (fin : IsEnum ((s.heap.push o).push (enumObj s.heap.objs.size)) (s.heap.push o).objs.size s.heap.objs.size 0 .none → ((s.heap.push o).push (enumObj s.heap.objs.size)).get? s.heap.objs.size = some o →
      Q (.ref (s.heap.push o).objs.size) { s with heap := (s.heap.push o).push (enumObj s.heap.objs.size) }) : wpAny (model prog w) A (call (.type "enumerate") [v]) Q E s :=
  have there : IsEnum ((s.heap.push o).push (enumObj s.heap.objs.size)) (s.heap.push o).objs.size s.heap.objs.size 0 .none := Heap.get?_push_size (s.heap.push o) rfl
  callType_new F.called_enumerate (by decide) (F.typeCall_enumerate_1 v) (F.newCall_enumerate_1 v) (F.args_object_init_2 · v) F.entry_enumerate_new (meets_E B)
    ⟨can, ⟨_, there, rfl⟩, fin there (Heap.get?_push_of_some _ (Heap.get?_push_size s.heap B.free))⟩
/-- v may be enumerated so -/
def Enu (P : Program) (w : World) (K : PySem.W.Frag) (v : V) (n : Nat) (f : Nat → V) (G : Hp → Prop) : Prop := ∀ u, RelV v u → Nonempty (Src P w K u n f G)
def iE (P : Program) (w : World) (K : PySem.W.Frag) (ta : TA) : TI := fun σ H R => ta σ H fun vs H1 => ∃ v n f G, vs = [v] ∧ Enu P w K v n f G ∧ G H1 ∧ R (ItE n f G) H1
theorem pi_E {X : Cx} {x : Expr} {ta : TA} {p pos tpos : Pos} {elts : List Expr} {kk : Nat} (hg : Gl X "enumerate") (hm : X.mg "enumerate" = none) (ha : PA X [x] ta) (hs : starEach [x] X.env = [(false, eval x X.env)] := by rfl) :
    PI X (.Tuple elts kk tpos) (.Call (.Name "enumerate" p) [x] [] pos) (iE X.prog X.w X.K ta) where
  run := fun pins s σ H R I h => Call_ (ld_blt I hg hm boot_enumerate (PyProof.Rows.callWith_type1 (thn (ha.run pos pins s σ H _ I h) fun us s1 ⟨vs, H1, I1, rel, v, n, f, G, ev, src, g, q⟩ => by
    subst ev
    obtain ⟨u, rfl, ru⟩ := vals1 rel
    obtain ⟨S⟩ := src u ru
    have lt : s1.heap.objs.size < (s1.heap.push S.o).objs.size := by rw [Heap.size_push]; exact Nat.lt_succ_self _
    refine call_E S.beg (S.can rfl rfl rfl I1 g) fun he hit => wpAny_pyIter_enum he ?_
    refine ⟨_, [_, _], _, ItE n f G, H1, rfl, I1.kept (t' := s1.toks) fun b ob hb => Heap.get?_push_of_some _ (Heap.get?_push_of_some _ hb), S.turn (Nat.ne_of_gt lt), ⟨⟨_, he⟩, S.new _ _ hit⟩, fun b hb => ?_, q⟩
    have le : s1.heap.objs.size ≤ b := by
      rw [List.mem_cons, List.mem_singleton] at hb
      exact hb.elim (fun z => z ▸ Nat.le_of_lt lt) fun z => z ▸ Nat.le_refl _
    exact I1.fpOk le (I1.hok.fresh le)) hs rfl))
/-- a text, sign by sign -/
theorem enu_text {P : Program} {w : World} {K : PySem.W.Frag} (l : List Nat) : Enu P w K (.str ⟨l.toArray⟩) l.length (fun i => .str ⟨#[l.getD i 0]⟩) fun _ => True := by
  rintro _ ⟨t, rfl⟩
  refine ⟨⟨_, _, fun it i h => h.IsStrIter it (strIterType ⟨l.toArray⟩) ⟨l.toArray⟩ t i, begins_text _ t, fun _ _ _ _ _ => trivial, fun it h e => ⟨_, e, rfl, rfl⟩, fun it i h ⟨ob, ho, _, hd⟩ => ⟨ob, ho, fun v => by rw [hd]; exact nofun⟩,
    fun it i h h' ⟨ob, ho, r⟩ k => ⟨ob, k ob ho, r⟩, @fun X _ _ _ _ e it i e1 e2 _ calm I _ st _ ne => ?_⟩⟩
  subst e1 e2
  refine ⟨[it], _, _, Draws.text (A := X.A.in1) (I.ok.hd calm) it ⟨l.toArray⟩ t, List.mem_cons_self, by simpa using ne, st, fun _ _ q => q, fun v ⟨c, tk, hc, ev⟩ => ⟨tk, ?_⟩⟩
  have hc' : l[i]? = some c := by simpa using hc
  rw [ev, List.getD_eq_getElem?_getD, hc']
  rfl
theorem apart_cls {h : Heap} {a b : Addr} {S T : String} (x : ∃ o, h.get? a = some o ∧ o.cls = .type S) (y : ∃ o, h.get? b = some o ∧ o.cls = .type T) (ne : S ≠ T := by decide) : a ≠ b := by
  rintro rfl
  obtain ⟨o, h1, c1⟩ := x
  obtain ⟨o', h2, c2⟩ := y
  rw [Option.some.inj (h1.symm.trans h2), c2] at c1
  exact ne (Value.type.inj c1).symm
theorem begins_tup (a : Addr) : Begins (.ref a) { cls := .type "tuple_iterator", data := .fields #[.ref a, .int 0 0] } fun h => ∃ its, h.IsTuple a its where
  iter := fun _ _ _ _ _ _ ⟨its, c⟩ q => (begins_tuple a its).iter _ _ _ _ _ _ c q
  keeps := fun _ _ ⟨its, c⟩ k => ⟨its, (begins_tuple a its).keeps _ _ c k⟩
  free := rfl
/-- a tuple, item by item -/
theorem enu_tup {P : Program} {w : World} {K : PySem.W.Frag} (a : Addr) (xs : List V) : Enu P w K (.ref a) xs.length (fun i => xs.getD i .non) fun H => SqT K H a xs := by
  rintro _ rfl
  refine ⟨⟨_, _, fun it i h => h.IsTupleIter it a i, begins_tup a, @fun X _ _ _ s e1 e2 e3 I g => ?_, fun it h e => ⟨_, e, rfl, rfl⟩, fun it i h ⟨ob, ho, _, hd⟩ => ⟨ob, ho, fun v => by rw [hd]; exact nofun⟩,
    fun it i h h' st k => st.at k, @fun X _ _ _ s e it i e1 e2 e3 calm I g st hE ne => ?_⟩⟩
  all_goals
    subst e1 e2 e3
    obtain ⟨its, rv, tup, -⟩ := I.tuple g
  · exact ⟨its.toArray, tup⟩
  have at_a : ∃ o : Obj, s.heap.get? a = some o ∧ o.cls = .type "tuple" := let ⟨o, ho, hc, _⟩ := tup; ⟨o, ho, hc⟩
  have at_it : ∃ o : Obj, s.heap.get? it = some o ∧ o.cls = .type "tuple_iterator" := let ⟨o, ho, hc, _⟩ := st; ⟨o, ho, hc⟩
  obtain ⟨c, old, he⟩ := hE
  have D := Draws.tuple (prog := X.prog) (w := X.w) (A := X.A.in1) (I.ok.hd calm) it a (apart_cls at_a at_it) its.toArray
  rw [List.size_toArray, ← rv.length] at D
  refine ⟨[it, a], _, _, D, List.mem_cons_self, fun z => ?_, ⟨st, tup⟩, fun _ _ q => q.1, fun v hv => ?_⟩
  · rw [List.mem_cons, List.mem_singleton] at z
    exact z.elim ne (apart_cls ⟨_, he, rfl⟩ at_a)
  · have hv' : its[i]? = some v := by simpa using hv
    have lt : i < xs.length := by rw [rv.length]; exact (List.getElem?_eq_some_iff.mp hv').1
    obtain ⟨u, hu, ru⟩ := rv.get (List.getElem?_eq_getElem lt)
    rw [List.getD_eq_getElem?_getD, List.getElem?_eq_getElem lt, ← Option.some.inj (hu.symm.trans hv')]
    exact ru
end K03

set_option Elab.async false
set_option linter.all false
set_option maxRecDepth 100000
set_option maxHeartbeats 2400000
namespace K03
open L2 PySem PySem.Spec PyProof.Rows

/-! ### sorted of a tuple of pairs -/
section
variable {prog : Program} {w : World} {A : Around} {E Q : Value → Shared → Prop} {s : Shared} {a : Addr} {vs : List Value}
/-- sorted of a tuple is list.sort of a new list of its items, laid over a heap that keeps what there was -/
theorem sorted_tup (tup : s.heap.IsTuple a vs.toArray) (hz : vs.length ≤ sizeLine)
    (body : ∀ h1 : Heap, (∀ b ob, s.heap.get? b = some ob → h1.get? b = some ob) → ∀ E', wpAny (model prog w) A.in1.in1 (Builtin.«list.sort» ⟨[.ref h1.objs.size], []⟩) (fun f s' => f = .done (.ret .none) ∧ Q (.ref h1.objs.size) s') E'
      { s with heap := h1.push (seqObj "list" vs.toArray 0) }) : wpAny (model prog w) A (call (.builtin "sorted") [.ref a]) Q E s := by
  obtain ⟨o, ho, hc, n, hd⟩ := tup
  refine Calls.call_function_entry kind_sorted plain_sorted entry_sorted (args_sorted1 (.ref a)) (wpAny_bind (m := checkCount "sorted" 1 1 (List.length [Value.ref a])) (wpAny_pure (wpAny_bind ?_)))
  refine wpAny_collect_seq a (.inr rfl) ho hc hd (fun h1 k1 => wpAny_bind (wpAny_newList (wpAny_bind (wpAny_holding ?_)) hz)) hz
  have there : (h1.push (seqObj "list" vs.toArray 0)).get? h1.objs.size = some (seqObj "list" vs.toArray 0) := Heap.get?_push_size h1 rfl
  refine wpAny_call_entry slot_list_sort ⟨_, there, rfl⟩ entry_list_sort (wpAny_mono (body h1 k1 _) (fun f s' q => ?_) fun _ _ q => q) (args_list_sort (.ref h1.objs.size))
  obtain ⟨rfl, q⟩ := q
  exact ⟨_, rfl, wpAny_pure ⟨_, rfl, q⟩⟩
end
def rSortedPT (K : PySem.W.Frag) : List V → Hp → VK → Prop := fun vs H Q => ∃ (a : Addr) (xs : List V) (k : V → Int × Int), vs = [V.ref a] ∧ SqT K H a xs ∧ (∀ x ∈ xs, ∃ t, x = V.ref t ∧ H t = some (.tup [.int (k x).1, .int (k x).2])) ∧
  ∀ zs p, SrtO.Srtd (ltP k) zs → SrtO.Stb (ltP k) zs xs → H p = none → Q (.ref p) (upd H p (.lst zs))
section
variable {X : Cx} {s : Shared} {σ : L2.St} {H : Hp} {pins : List (Addr × Obj)}
/-- a tracked pair, in the heap -/
theorem is_pair (I : Inv X pins σ H s) {t : Addr} {x y : Int} (h : H t = some (.tup [.int x, .int y])) : Srt.IsPair s.heap (.ref t) x y := by
  obtain ⟨-, its, rel, o, ho, hc, n, hd⟩ := I.hok t _ h
  obtain ⟨_, _, rfl, ⟨i, rfl⟩, ⟨j, rfl⟩⟩ := vals2 rel
  exact ⟨t, o, i, j, n, rfl, ho, hc, hd⟩
theorem cr_sortedPT : CallR X (.builtin "sorted") (rSortedPT X.K) := by
  rintro pins s σ H _ us Q I rel ⟨a, xs, k, rfl, g, pair, q⟩
  obtain ⟨_, rfl, rfl⟩ := vals1 rel
  obtain ⟨its, rv, tup, hz⟩ := I.tuple g
  obtain ⟨back, refs⟩ := refs_back rv fun x m => let ⟨t, e, _⟩ := pair x m; ⟨t, e⟩
  have hz' : its.length ≤ sizeLine := rv.length ▸ hz
  refine sorted_tup tup hz' fun h1 k1 E' => ?_
  -- the new list stands, nothing else has changed
  have I1 : Inv X pins σ H { s with heap := h1 } := I.kept (t' := s.toks) k1
  have there : (h1.push (seqObj "list" its.toArray 0)).get? h1.objs.size = some (seqObj "list" its.toArray 0) := Heap.get?_push_size h1 rfl
  have kp : ∀ b ob, h1.get? b = some ob → (h1.push (seqObj "list" its.toArray 0)).get? b = some ob := fun b ob e => Heap.get?_push_of_some _ e
  refine SrtO.list_sort_ord (SrtO.swo_lex fun u => k (backV u)) there hz' (fun two => SrtO.pairs_sortableO (Nat.lt_of_succ_lt two) (fun u hu => ?_) fun ob e => ?_) fun out sorted stable => ⟨rfl, ?_⟩
  · obtain ⟨t, rfl⟩ := refs u hu
    obtain ⟨_, e, ht⟩ := pair (.ref t) (back ▸ List.mem_map.mpr ⟨_, hu, rfl⟩)
    cases e
    exact (is_pair I1 ht).keeps fun b ob e _ => kp b ob e
  · rw [Option.some.inj (e.symm.trans there)]
    exact fun z => absurd (Value.type.inj z) (by decide)
  · have st : SrtO.Stb (ltP k) (out.map backV) xs := back ▸ SrtO.Stb.map (ltP_swo k) backV stable
    obtain ⟨n, hn⟩ := sortedHeap_at (out := out.toArray) there
    have old : ∀ b ob, h1.get? b = some ob → (sortedHeap (h1.push (seqObj "list" its.toArray 0)) h1.objs.size its out.toArray).get? b = some ob := fun b ob e =>
      (sortedHeap_old (Nat.ne_of_lt (Heap.lt_size e)) (Heap.lt_size (kp b ob e))).trans (kp b ob e)
    exact ⟨.ref h1.objs.size, upd H h1.objs.size (.lst (out.map backV)), I1.laid (t' := s.toks) old (Nat.le_refl _) ⟨st.len ▸ hz, out, n, vals_back fun u hu => refs u (stable.perm.mem_iff.mp hu), hn⟩, rfl,
        q _ _ (SrtO.srtd_map sorted) st (I1.hok.fresh (Nat.le_refl _))⟩
end
section
variable {X : Cx}
/-- x in a tuple of data -/
def rInTD (K : PySem.W.Frag) : R2 := fun x y H Q => ∃ d ds, Dp K H x d ∧ Dp K H y (.tuple ds) ∧ SeqAt.shaped d = true ∧ SeqAt.shaped (.tuple ds) = true ∧ Q (.bl (ds.any fun z => PyData.eqv z d)) H
theorem op_inTD (hu : X.A.units + 65 < cLine) : OpR X (compareOp .In) (rInTD X.K) := by
  rintro pins s σ H x y v u Q I rx ry ⟨one, many, h1, h2, s1, s2, q⟩
  obtain ⟨⟨_, r1⟩, _, r2⟩ := And.intro (Dp.reads I one x v h1 rx) (Dp.reads I (.tuple many) y u h2 ry)
  exact SeqAt.in_tuple_reads r2 r1 (SeqAt.canLay_of_shaped s2) (SeqAt.canLay_of_shaped s1) (room_in_shaped s1 hu) ⟨.bl _, H, I, rfl, q⟩
end

/-! ### the element of is_memory's test -/
theorem elt_in {prog : Program} {w : World} {scope : Scope} {x k : Str} {j : Nat} {p1 p2 p3 : Pos} (hk : scope.kind = .function) (hl : scope.names.lookup x = some .local) (hd : (x == ("__debug__" : Str)) = false := by decide) :
    GxR.EltP prog w scope x (.Compare (.Name x p1) [.In] [.Constant (.str k) j p2] p3) (fun c => decide (c ∈ k.cps.toList)) := by
  intro env A' E' c tk s2 mine sco ns found
  have there : env.scope.names.lookup x = some .local := by rw [sco]; exact hl
  exact wpAny_Compare1 (wpAny_Name (wpAny_loadName_local (sco ▸ hk) there ns found (Calls.Constant_str (PyProof.Rows.in_str ⟨by rw [PySem.StrLaws.found_one k c], GxR.keeps_tok _ _⟩))) hd) rfl

/-! ### pairs of ints, lists and tuples of such -/
def PR (H : Hp) (x : V) (r : Int × Int) : Prop := ∃ t, x = .ref t ∧ H t = some (.tup [.int r.1, .int r.2])
abbrev Prs (H : Hp) : List V → List (Int × Int) → Prop := Paired (PR H)
def TupR (H : Hp) (a : Addr) (rs : List (Int × Int)) : Prop := ∃ xs, H a = some (.tup xs) ∧ Prs H xs rs
def LstR (H : Hp) (a : Addr) (rs : List (Int × Int)) : Prop := ∃ xs, H a = some (.lst xs) ∧ Prs H xs rs

def keyR (r : Int × Int) : NestedKey := .tup [.num r.1, .num r.2]
def keyN (rs : List (Int × Int)) : NestedKey := .tup (rs.map keyR)
theorem keyR_inj {a b : Int × Int} (h : keyR a = keyR b) : a = b := by
  obtain ⟨x, y⟩ := a
  obtain ⟨z, u⟩ := b
  simp only [keyR, NestedKey.tup.injEq, List.cons.injEq, NestedKey.num.injEq, and_true] at h
  rw [h.1, h.2]
theorem map_keyR_inj {a b : List (Int × Int)} (h : a.map keyR = b.map keyR) : a = b := (List.map_inj_right fun _ _ => keyR_inj).mp h
theorem keyN_inj {a b : List (Int × Int)} (h : keyN a = keyN b) : a = b := by
  unfold keyN at h
  exact map_keyR_inj (NestedKey.tup.inj h)
theorem depth_keys (rs : List (Int × Int)) : NestedKey.depthAll (rs.map keyR) ≤ 1 := by
  induction rs with
  | nil => simp [NestedKey.depthAll]
  | cons r rs ih =>
    have h1 : (keyR r).depth = 1 := by simp [keyR, NestedKey.depth, NestedKey.depthAll]
    simp only [List.map_cons, NestedKey.depthAll]
    omega
section
variable {X : Cx} {s : Shared} {σ : L2.St} {H : Hp} {pins : List (Addr × Obj)}
theorem nested_all (I : Inv X pins σ H s) : ∀ {xs : List V} {rs : List (Int × Int)} {us : List Value}, Prs H xs rs → Vals xs us → NestedAll s.heap (rs.map keyR) us
  | _, _, _, .nil, .nil => .nil
  | _, _, _, .cons h t, .cons r rr => by
    obtain ⟨a, rfl, ha⟩ := h
    cases r
    obtain ⟨_, its, rv, o, e, c, n, d⟩ := I.hok _ _ ha
    obtain ⟨u1, u2, rfl, ri, rj⟩ := vals2 rv
    obtain ⟨t1, rfl⟩ := ri
    obtain ⟨t2, rfl⟩ := rj
    exact .cons (.tup e c d (.cons (.int _ _) (.cons (.int _ _) .nil))) (nested_all I t rr)
theorem nested_is (I : Inv X pins σ H s) {a : Addr} {rs : List (Int × Int)} (h : TupR H a rs) : (nestedKind X.prog X.w).is s.heap (keyN rs) a := by
  obtain ⟨xs, ha, hp⟩ := h
  obtain ⟨_, its, rv, o, e, c, n, d⟩ := I.hok _ _ ha
  refine ⟨.tup e c d (by simpa using nested_all I hp rv), ?_⟩
  have := depth_keys rs
  simp only [keyN, NestedKey.depth]
  omega
end

/-! ### a dict whose keys are tuples of pairs -/
def DicO (P : Program) (w : World) (xs : List (NestedKey × Addr × Value)) (d : Addr) : HO := .ext fun h => (d == sysModules) = false ∧ xs.length ≤ sizeLine ∧
  ∃ o es ep, h.get? d = some o ∧ o.ExactDict ∧ o.data = .dict es ep ∧ es.toList = xs.map (entryOfKey (nestedKind P w)) ∧ (xs.map (·.1)).Nodup
def Ent (H : Hp) (kv : List (Int × Int) × V) (x : NestedKey × Addr × Value) : Prop := x.1 = keyN kv.1 ∧ TupR H x.2.1 kv.1 ∧ RelV kv.2 x.2.2
def DicR (P : Program) (w : World) (H : Hp) (d : Addr) (kvs : List (List (Int × Int) × V)) : Prop := ∃ xs, H d = some (DicO P w xs d) ∧ Paired (Ent H) kvs xs
section
variable {X : Cx} {s : Shared} {σ : L2.St} {H : Hp} {pins : List (Addr × Obj)}
theorem paired_mem {α β : Type} {F : α → β → Prop} : ∀ {l : List α} {m : List β}, Paired F l m → ∀ y ∈ m, ∃ x ∈ l, F x y
  | _, _, .nil, _, h => by simp at h
  | _, _, .cons r t, y, h => by
    cases h with
    | head => exact ⟨_, List.mem_cons_self, r⟩
    | tail _ h => let ⟨x, hx, f⟩ := paired_mem t y h; exact ⟨x, List.mem_cons_of_mem _ hx, f⟩
theorem DicR.at (I : Inv X pins σ H s) {d : Addr} {kvs : List (List (Int × Int) × V)} (h : DicR X.prog X.w H d kvs) :
    ∃ xs, s.heap.DictOfH (nestedKind X.prog X.w) d xs ∧ (d == sysModules) = false ∧ xs.length ≤ sizeLine ∧ Paired (Ent H) kvs xs := by
  obtain ⟨xs, hd, hp⟩ := h
  obtain ⟨⟨z, hz, o, es, ep, ho, hx, hdat, he, hn⟩, _⟩ := I.hok d _ hd
  refine ⟨xs, ⟨o, es, ep, ho, hx, hdat, he, fun x hx' => ?_, hn⟩, z, hz, hp⟩
  obtain ⟨kv, _, e1, e2, _⟩ := paired_mem hp x hx'
  rw [e1]
  exact nested_is I e2
/-- what is found under the key rs -/
def lookR (kvs : List (List (Int × Int) × V)) (rs : List (Int × Int)) : V := ((kvs.find? fun kv => decide (kv.1 = rs)).map (·.2)).getD .non
theorem look_rel {H : Hp} (rs : List (Int × Int)) : ∀ {kvs : List (List (Int × Int) × V)} {xs : List (NestedKey × Addr × Value)}, Paired (Ent H) kvs xs →
    RelV (lookR kvs rs) (((atKey xs (keyN rs)).map (·.2)).getD .none)
  | _, _, .nil => rfl
  | _, _, .cons (a := kv) (b := x) r t => by
    have ih := look_rel rs t
    obtain ⟨e1, _, e3⟩ := r
    by_cases h : kv.1 = rs
    · have h2 : x.1 = keyN rs := by rw [e1, h]
      simp only [lookR, atKey, List.find?_cons, h, h2, decide_true, Option.map_some, Option.getD_some]
      exact e3
    · have h2 : ¬ x.1 = keyN rs := fun q => h (keyN_inj (e1.symm.trans q))
      simp only [lookR, atKey, List.find?_cons, h, h2, decide_false]
      exact ih
def rLenN (P : Program) (w : World) : List V → Hp → VK → Prop := fun vs H Q => ∃ d kvs, vs = [.ref d] ∧ DicR P w H d kvs ∧ Q (.int (kvs.length : Nat)) H
theorem call_lenN : CallR X (.builtin "len") (rLenN X.prog X.w) := by
  rintro pins s σ H _ us Q I r ⟨d, kvs, rfl, hd, q⟩
  obtain ⟨_, rfl, rfl⟩ := vals1 r
  obtain ⟨xs, hm, hs, hz, hp⟩ := hd.at I
  have hl : kvs.length = xs.length := Paired.length hp
  have hk : s.heap.DictKeyed (nestedKind X.prog X.w) d (pairsH xs) := ⟨xs, hm, rfl⟩
  refine call_len_slot (n := (pairsH xs).length) hk.typeIs F.slot_dict_len (fun Q' hq => len_keyed hs hk hq) (by omega) (by rw [pairsH_length]; rw [sizeLine_eq] at hz; omega) ?_
  refine ⟨.int (kvs.length : Nat), H, I.tok _, ⟨s.toks + 1, ?_⟩, q⟩
  rw [hl, pairsH_length]
def tGetN (P : Program) (w : World) (td ty : TE) : TE := fun σ H Q => td σ H fun x H1 => ∃ d, x = .ref d ∧ (∃ kvs, DicR P w H1 d kvs) ∧ ty σ H1 fun y H2 => ∃ t kvs rs, y = .ref t ∧ DicR P w H2 d kvs ∧ TupR H2 t rs ∧ Q (lookR kvs rs) H2
theorem pe_getN {o e : Expr} {apos cpos : Pos} {td ty : TE} (hu : X.A.units + 9 < cLine) (ho : PE X o td) (he : PE X e ty) (m : M1 X o "get" apos e cpos) : PE X (.Call (.Attribute o "get" apos) [e] [] cpos) (tGetN X.prog X.w td ty) := by
  refine ⟨fun pins s σ H Q I h => wpAny_Call_method m.base m.few m.line PySem.F.plainAttrs_dict PySem.F.slot_dict_get PySem.F.type_dict_get (thn (ho.run pins s σ H _ I h) ?_)⟩
  rintro u s1 ⟨_, H1, I1, rel, a, rfl, ⟨kvs, d⟩, q1⟩
  cases show u = .ref a from rel
  obtain ⟨xs, hm, hs, hz, hp⟩ := d.at I1
  have t1 := hm.typeIs
  obtain ⟨o', es, ep, ho', hx, _⟩ := id hm
  refine ⟨t1, fun b z => ?_, ?_⟩
  · cases z
    exact ⟨o', ho', hx.2.1⟩
  rw [m.trees]
  refine Calls.callWith_builtin rfl (Calls.evalArgs_plain (Calls.spliced_cons (thn (he.run pins s1 σ H1 _ I1 q1) fun iv s2 ⟨y, H2, I2, ry, t, kvs2, rs, ey, d2, ht, q2⟩ => Calls.spliced_nil ?_)))
  subst ey
  obtain rfl : iv = Value.ref t := ry
  obtain ⟨xs2, hm2, hs2, hz2, hp2⟩ := d2.at I2
  have hk : s2.heap.DictKeyed (nestedKind X.prog X.w) a (pairsH xs2) := ⟨xs2, hm2, rfl⟩
  refine get_keyed (knd := nestedKind X.prog X.w) (by show X.A.units + 1 + 8 < cLine; omega) (nested_is I2 ht) hs2 hk ?_
  rw [valueAt_pairsH]
  exact ⟨lookR kvs2 rs, H2, I2.tok _, look_rel rs hp2, q2⟩
/-- the pairs of dict's argument -/
def PrK (H : Hp) (p : Addr) (kv : List (Int × Int) × V) : Prop := ∃ t, H p = some (.tup [.ref t, kv.2]) ∧ TupR H t kv.1
def rDictN (K : PySem.W.Frag) (P : Program) (w : World) : List V → Hp → VK → Prop := fun vs H Q => ∃ (a : Addr) (ps : List Addr) (kvs : List (List (Int × Int) × V)), vs = [.ref a] ∧ H a = some (.lst (ps.map V.ref)) ∧ Paired (PrK H) ps kvs ∧ (kvs.map (·.1)).Nodup ∧
  ∀ d H', Same H H' → H d = none → DicR P w H' d kvs → Q (.ref d) H'
theorem ents_of (I : Inv X pins σ H s) : ∀ {ps : List Addr} {kvs : List (List (Int × Int) × V)}, Paired (PrK H) ps kvs →
    ∃ (xs : List (NestedKey × Addr × Value)) (ks : List Value), Paired (Ent H) kvs xs ∧ xs.length = ps.length ∧
      ∀ (j : Nat) (x : NestedKey × Addr × Value), xs[j]? = some x → ∃ b, ps[j]? = some b ∧ s.heap.IsTuple b #[.ref x.2.1, x.2.2]
  | _, _, .nil => ⟨[], [], .nil, rfl, fun j x e => by simp at e⟩
  | _, _, .cons (b := kv) (a := p) h t => by
    obtain ⟨xs, ks, r, hl, hp⟩ := ents_of I t
    obtain ⟨tk, hpp, ht⟩ := h
    obtain ⟨_, its, rv, hT⟩ := I.hok _ _ hpp
    obtain ⟨u1, u2, rfl, r1, r2⟩ := vals2 rv
    obtain rfl : u1 = Value.ref tk := r1
    refine ⟨(keyN kv.1, tk, u2) :: xs, [], .cons ⟨rfl, ht, r2⟩ r, by simp [hl], fun j x e => ?_⟩
    cases j with
    | zero =>
      cases e
      exact ⟨p, rfl, hT⟩
    | succ j =>
      simp only [List.getElem?_cons_succ] at e
      exact hp j x e
theorem ent_keys {H : Hp} : ∀ {kvs : List (List (Int × Int) × V)} {xs : List (NestedKey × Addr × Value)}, Paired (Ent H) kvs xs → xs.map (·.1) = (kvs.map (·.1)).map keyN
  | _, _, .nil => rfl
  | _, _, .cons r t => by
    simp only [List.map_cons]
    rw [ent_keys t, r.1]
theorem ent_same {H H' : Hp} (sm : Same H H') : ∀ {kvs : List (List (Int × Int) × V)} {xs : List (NestedKey × Addr × Value)}, Paired (Ent H) kvs xs → Paired (Ent H') kvs xs := fun h =>
  Paired.mapP h fun a b ⟨e1, ⟨ys, e2, e3⟩, e4⟩ => ⟨e1, ⟨ys, sm _ _ e2, Paired.mapP e3 fun x r ⟨t, z1, z2⟩ => ⟨t, z1, sm _ _ z2⟩⟩, e4⟩
theorem nodup_map_inj {α β : Type} {f : α → β} (hf : ∀ a b, f a = f b → a = b) {l : List α} (h : l.Nodup) : (l.map f).Nodup :=
  List.pairwise_map.mpr (h.imp fun hne e => hne (hf _ _ e))
theorem call_dictN (hcalm : X.calm = true) (hu : X.A.units + 10 < cLine) : CallR X (.type "dict") (rDictN X.K X.prog X.w) := by
  rintro pins s σ H _ us Q I r ⟨a, ps, kvs, rfl, ha, hp, hn, q⟩
  obtain ⟨_, rfl, rfl⟩ := vals1 r
  obtain ⟨hz, its, n, rv, ho⟩ := I.hok _ _ ha
  obtain ⟨xs, _, hx, hlx, hT⟩ := ents_of I hp
  have hnx : (xs.map (·.1)).Nodup := by
    rw [ent_keys hx]
    exact nodup_map_inj (fun _ _ e => keyN_inj e) hn
  have hl : its.length = ps.length := by
    rw [← rv.length, List.length_map]
  have hits : ∀ (j : Nat) b, ps[j]? = some b → its[j]? = some (.ref b) := fun j b e => by
    obtain ⟨u, hu', ru⟩ := rv.get (i := j) (x := V.ref b) (by rw [List.getElem?_map, e]; rfl)
    cases ru
    exact hu'
  have hpz : ps.length ≤ sizeLine := by rw [List.length_map] at hz; exact hz
  refine call_dict_pairsH (knd := nestedKind X.prog X.w) (ps := xs) (PairArg.list a its.toArray (fun j => ps.getD j 0) (xs.map fun x => (.ref x.2.1, x.2.2))) (I.ok.hd hcalm) (by show X.A.units + 1 + 1 + 8 < cLine; omega)
    ⟨⟨_, n, ho, rfl, rfl, rfl⟩, by simp [hl, hlx], fun j k v e => ?_⟩ ⟨by simp, fun i k v e => ?_⟩ (fun h' hk x hm => ?_) (by rw [List.length_map, hlx]; exact hpz) fun h' tk hd' k => ?_
  · rw [List.getElem?_map] at e
    cases hxj : xs[j]? with
    | none => rw [hxj] at e; cases e
    | some x =>
      rw [hxj] at e
      cases e
      obtain ⟨b, hb, ht⟩ := hT j x hxj
      have hg : ps.getD j 0 = b := by rw [List.getD_eq_getElem?_getD, hb]; rfl
      show its.toArray[j]? = some (.ref (ps.getD j 0)) ∧ PairAt s.heap (ps.getD j 0) _ _
      rw [hg]
      exact ⟨by simpa using hits j b hb, .inl ht⟩
  · have e' : (xs.map fun x => ((.ref x.2.1, x.2.2) : Value × Value))[i]? = some (k, v) := e
    rw [List.getElem?_map] at e'
    cases hxj : xs[i]? with
    | none => rw [hxj] at e'; cases e'
    | some x =>
      rw [hxj] at e'
      cases e'
      exact ⟨x.1, x.2.1, rfl, rfl⟩
  · obtain ⟨kv, _, e1, e2, _⟩ := paired_mem hx x hm
    rw [e1]
    have hI := nested_is I e2
    refine nestedKind_stays.stays (fun b o vs n e q => hk b o (Nat.ne_of_lt (Heap.lt_size e)) (by simp) e) hI
  · rw [storedAllH_nil_of_nodup xs hnx] at hd'
    have hnone : H s.heap.objs.size = none := I.hok.fresh (Nat.le_refl _)
    have kk : ∀ b u, s.heap.get? b = some u → h'.get? b = some u := fun b u e => k b u (by simp) e
    obtain ⟨o, es, ep, ho2, hx2, hd2, he2, _, hn2⟩ := hd'
    have new : ObjOk X.prog X.w (upd H s.heap.objs.size (DicO X.prog X.w xs s.heap.objs.size)) h' s.heap.objs.size (DicO X.prog X.w xs s.heap.objs.size) := by
      refine ⟨⟨beq_eq_false_iff_ne.mpr (Nat.ne_of_gt I.big), by rw [hlx]; exact hpz, o, es, ep, ho2, hx2, hd2, he2, hn2⟩, ⟨o, ho2⟩, ?_⟩
      rintro h1 h2 ⟨z1, z2, o, es, ep, w1, w2⟩ kp
      exact ⟨z1, z2, o, es, ep, kp _ w1, w2⟩
    have sm : Same H (upd H s.heap.objs.size (DicO X.prog X.w xs s.heap.objs.size)) := fun b o e => by
      rw [upd_ne (ne_of_none e hnone)]
      exact e
    exact ⟨.ref s.heap.objs.size, _, I.laid (t' := tk) kk (Nat.le_refl _) new, rfl, q _ _ sm hnone ⟨xs, upd_same, ent_same sm hx⟩⟩
end
end K03

set_option Elab.async false
set_option linter.all false
set_option maxRecDepth 100000
/-! the mathematics: no program here -/
namespace K03
abbrev Rl := Int × Int
def allRel (n : Nat) : List Rl := (List.range n).flatMap fun (h : Nat) => (List.range (h + 1)).map fun (l : Nat) => ((1 : Int) + (h : Int), (l : Int))
def posF (c : Nat) (l : List Nat) : List Nat := (List.range l.length).filter fun i => decide (l[i]? = some c)
def placeF (l : List Nat) (c k : Nat) : Nat := if k ≤ (posF c l).length then (posF c l).getD (k - 1) 0 else l.length
def holdsF (l : List Nat) (r : Rl) : Bool := decide (placeF l 49 (r.2 + 1).toNat < placeF l 48 ((l.length : Int) - r.1 + 1).toNat)
def onF (l : List Nat) : List Rl := (allRel l.length).filter (holdsF l)
def allMem : Nat → List (List Nat)
  | 0 => [[]]
  | n + 1 => (allMem n).flatMap fun m => [m ++ [48], m ++ [49]]
def lawAll : Nat → List (List Nat)
  | 0 => [[]]
  | n + 1 => (lawAll n).map (fun m => m ++ [48]) ++ (lawAll n).map (fun m => m ++ [49])

def Lex (a b : Rl) : Prop := ¬ (b.1 < a.1 ∨ (b.1 = a.1 ∧ b.2 < a.2))
instance (a b : Rl) : Decidable (Lex a b) := inferInstanceAs (Decidable (¬ _))
theorem Lex.antisymm {a b : Rl} (h : Lex a b) (g : Lex b a) : a = b := by
  obtain ⟨x, y⟩ := a
  obtain ⟨z, u⟩ := b
  unfold Lex at h g
  have e1 : x = z := by simp only at h g; omega
  have e2 : y = u := by simp only at h g; omega
  rw [e1, e2]
theorem sorted_eq : ∀ {l m : List Rl}, l.Pairwise Lex → m.Pairwise Lex → l.Perm m → l = m
  | [], m, _, _, p => p.nil_eq
  | x :: l, [], _, _, p => absurd p.length_eq (by simp)
  | x :: l, y :: m, hl, hm, p => by
    have e : x = y := by
      rcases List.mem_cons.mp (p.mem_iff.mp (List.mem_cons_self (a := x) (l := l))) with e | hx
      · exact e
      · rcases List.mem_cons.mp (p.mem_iff.mpr (List.mem_cons_self (a := y) (l := m))) with e | hy
        · exact e.symm
        · exact Lex.antisymm ((List.pairwise_cons.mp hl).1 y hy) ((List.pairwise_cons.mp hm).1 x hx)
    subst e
    rw [sorted_eq (List.pairwise_cons.mp hl).2 (List.pairwise_cons.mp hm).2 p.cons_inv]

theorem mem_allMem : ∀ {n : Nat} {m : List Nat}, m ∈ allMem n ↔ m.length = n ∧ ∀ c ∈ m, c = 48 ∨ c = 49
  | 0, m => by
    constructor
    · intro h
      simp only [allMem, List.mem_singleton] at h
      subst h
      exact ⟨rfl, fun c hc => by simp at hc⟩
    · intro ⟨h, _⟩
      simp only [allMem, List.mem_singleton]
      exact List.length_eq_zero_iff.mp h
  | n + 1, m => by
    simp only [allMem, List.mem_flatMap]
    constructor
    · rintro ⟨k, hk, h⟩
      obtain ⟨h1, h2⟩ := (mem_allMem (n := n)).mp hk
      simp only [List.mem_cons, List.not_mem_nil, or_false] at h
      rcases h with e | e
      · subst e
        refine ⟨by simp [h1], fun c hc => ?_⟩
        refine (List.mem_append.mp hc).elim (h2 c) fun hc => ?_
        exact .inl (by simpa using hc)
      · subst e
        refine ⟨by simp [h1], fun c hc => ?_⟩
        refine (List.mem_append.mp hc).elim (h2 c) fun hc => ?_
        exact .inr (by simpa using hc)
    · rintro ⟨h1, h2⟩
      have hne : m ≠ [] := fun e => by rw [e] at h1; simp at h1
      have e : _ = m := List.dropLast_concat_getLast hne
      refine ⟨m.dropLast, (mem_allMem (n := n)).mpr ⟨by simp [h1], fun c hc => h2 c ((List.dropLast_sublist m).subset hc)⟩, ?_⟩
      rcases h2 _ (List.getLast_mem hne) with z | z
      · rw [z] at e
        rw [e]
        simp
      · rw [z] at e
        rw [e]
        simp
def spans : List Nat := [1, 2, 3, 4, 5]
theorem f_inj : ∀ n ∈ spans, ((allMem n).map onF).Nodup := by decide +kernel
theorem f_sort : ∀ n ∈ spans, (allRel n).Pairwise Lex := by decide +kernel
theorem f_valid : ∀ n ∈ spans, (allRel n).Nodup ∧ ∀ r ∈ allRel n, 1 ≤ r.1 ∧ r.1 ≤ (n : Int) ∧ 0 ≤ r.2 ∧ r.2 ≤ r.1 - 1 := by decide +kernel
theorem f_law : ∀ n ∈ spans, (lawAll n).Perm (allMem n) := by decide +kernel
theorem f_len : ∀ n ∈ spans, (allMem n).length ≤ 32 ∧ (allRel n).length ≤ 15 := by decide +kernel
theorem mem_spans {n : Nat} (h : 1 ≤ n) (h2 : n ≤ 5) : n ∈ spans := by
  have : n = 1 ∨ n = 2 ∨ n = 3 ∨ n = 4 ∨ n = 5 := by omega
  simp [spans, this]

theorem onF_sorted {n : Nat} (hn : n ∈ spans) {m : List Nat} (hm : m.length = n) : (onF m).Pairwise Lex := by
  unfold onF
  rw [hm]
  exact (f_sort n hn).filter _
theorem onF_inj {n : Nat} (hn : n ∈ spans) {m k : List Nat} (hm : m ∈ allMem n) (hk : k ∈ allMem n) (e : onF m = onF k) : m = k := by
  have h := f_inj n hn
  obtain ⟨i, hi, ei⟩ := List.mem_iff_getElem.mp hm
  obtain ⟨j, hj, ej⟩ := List.mem_iff_getElem.mp hk
  have e1 : ((allMem n).map onF)[i]'(by simpa using hi) = ((allMem n).map onF)[j]'(by simpa using hj) := by
    simp only [List.getElem_map, ei, ej, e]
  have e2 := (List.getElem_inj h).mp e1
  subst e2
  rw [← ei, ← ej]
/-- the memory that memory_of hands back -/
def foundF (n : Nat) (rs : List Rl) : Option (List Nat) := (allMem n).find? fun m => decide ((onF m).Perm rs)
theorem perm_sorted {n : Nat} (hn : n ∈ spans) {m : List Nat} (hm : m ∈ allMem n) {rs ss : List Rl} (hs : ss.Pairwise Lex) (hp : ss.Perm rs) : onF m = ss ↔ (onF m).Perm rs :=
  ⟨fun e => e ▸ hp, fun p => sorted_eq (onF_sorted hn (mem_allMem.mp hm).1) hs (p.trans hp.symm)⟩
theorem find_perm {α : Type} {p : α → Bool} {l m : List α} (h : l.Perm m) (u : ∀ a ∈ l, ∀ b ∈ l, p a = true → p b = true → a = b) : l.find? p = m.find? p := by
  cases e : l.find? p with
  | none =>
    rw [List.find?_eq_none] at e
    symm
    rw [List.find?_eq_none]
    exact fun x hx => e x (h.mem_iff.mpr hx)
  | some a =>
    have ha := List.mem_of_find?_eq_some e
    have pa := List.find?_some e
    cases e2 : m.find? p with
    | none =>
      rw [List.find?_eq_none] at e2
      exact absurd pa (e2 a (h.mem_iff.mp ha))
    | some b =>
      have hb := List.mem_of_find?_eq_some e2
      have pb := List.find?_some e2
      rw [u a ha b (h.mem_iff.mpr hb) pa pb]
theorem find_congr {α : Type} {p q : α → Bool} : ∀ {l : List α}, (∀ a ∈ l, p a = q a) → l.find? p = l.find? q
  | [], _ => rfl
  | x :: l, h => by
    rw [List.find?_cons, List.find?_cons, h x List.mem_cons_self, find_congr fun a ha => h a (List.mem_cons_of_mem _ ha)]
theorem table_find {n : Nat} (hn : n ∈ spans) {ms : List (List Nat)} (hm : ms.Perm (lawAll n)) {rs ss : List Rl} (hs : ss.Pairwise Lex) (hp : ss.Perm rs) :
    (ms.find? fun m => decide (onF m = ss)) = foundF n rs := by
  have h1 : ms.Perm (allMem n) := hm.trans (f_law n hn)
  rw [find_perm h1 fun a ha b hb pa pb => ?_]
  · unfold foundF
    exact find_congr fun a ha => decide_eq_decide.mpr (perm_sorted hn ha hs hp)
  · have e1 := of_decide_eq_true pa
    have e2 := of_decide_eq_true pb
    exact onF_inj hn (h1.mem_iff.mp ha) (h1.mem_iff.mp hb) (e1.trans e2.symm)
theorem keys_nodup {n : Nat} (hn : n ∈ spans) {ms : List (List Nat)} (hm : ms.Perm (lawAll n)) : (ms.map onF).Nodup :=
  ((hm.trans (f_law n hn)).map onF).nodup_iff.mpr (f_inj n hn)
theorem found_self {n : Nat} (hn : n ∈ spans) {m : List Nat} (hm : m ∈ allMem n) : foundF n (onF m) = some m := by
  cases e : foundF n (onF m) with
  | none =>
    unfold foundF at e
    rw [List.find?_eq_none] at e
    exact absurd (decide_eq_true (List.Perm.refl _)) (e m hm)
  | some k =>
    unfold foundF at e
    have hk := List.mem_of_find?_eq_some e
    have pk0 := List.find?_some e
    have pk := of_decide_eq_true pk0
    have e2 := (perm_sorted hn hk (onF_sorted hn (mem_allMem.mp hm).1) (List.Perm.refl _)).mpr pk
    rw [onF_inj hn hk hm e2]

/-- unlike relays of a span -/
def Valid (n : Nat) (rs : List Rl) : Prop := rs.Nodup ∧ ∀ r ∈ rs, 1 ≤ r.1 ∧ r.1 ≤ (n : Int) ∧ 0 ≤ r.2 ∧ r.2 ≤ r.1 - 1
theorem valid_all {n : Nat} (hn : n ∈ spans) : Valid n (allRel n) := f_valid n hn
theorem valid_sub {n : Nat} {rs ss : List Rl} (h : Valid n rs) (s : ss.Sublist rs) : Valid n ss := ⟨h.1.sublist s, fun r hr => h.2 r (s.subset hr)⟩
theorem valid_nil {n : Nat} : Valid n [] := ⟨List.nodup_nil, fun r hr => by simp at hr⟩
theorem valid_on {n : Nat} (hn : n ∈ spans) {m : List Nat} (hm : m.length = n) : Valid n (onF m) := by
  unfold onF
  rw [hm]
  exact valid_sub (valid_all hn) List.filter_sublist
theorem valid_add {n : Nat} (hn : n ∈ spans) {m : List Nat} (hm : m.length = n) {r : Rl} (hr : r ∈ allRel n) (hx : r ∉ onF m) : Valid n (onF m ++ [r]) := by
  obtain ⟨h1, h2⟩ := valid_on hn hm
  refine ⟨?_, fun x hx => ?_⟩
  · rw [List.nodup_append]
    refine ⟨h1, by simp, fun a ha b hb e => ?_⟩
    simp only [List.mem_singleton] at hb
    subst hb
    subst e
    exact hx ha
  · refine (List.mem_append.mp hx).elim (h2 x) fun last => ?_
    rw [List.mem_singleton.mp last]
    exact (valid_all hn).2 _ hr
theorem posF_get {c : Nat} {l : List Nat} {k : Nat} (h : 1 ≤ k) (h2 : k ≤ (posF c l).length) : (posF c l)[k - 1]? = some ((posF c l).getD (k - 1) 0) := by
  have : k - 1 < (posF c l).length := by omega
  rw [List.getD_eq_getElem?_getD, List.getElem?_eq_getElem this]
  rfl
theorem posF_lt {c : Nat} {l : List Nat} {x : Nat} (h : x ∈ posF c l) : x < l.length := List.mem_range.mp (List.mem_filter.mp h).1
end K03

set_option Elab.async false
set_option linter.all false
set_option maxRecDepth 100000
set_option maxHeartbeats 1200000
namespace K03
open L2 PySem PySem.Spec PyProof.Rows
/-! ### the text -/
def topS (i : Nat) : Stmt := PySem.Challenge.pw_relaybanks_k03_whole_memories_of_relays.main.body.getD i (.Pass ⟨0, 0, 0, 0⟩)
abbrev sIsIn : Stmt := topS 7
abbrev sIsMem : Stmt := topS 8
abbrev sNeedMem : Stmt := topS 9
abbrev sNeedSpan : Stmt := topS 10
abbrev sAllMem : Stmt := topS 11
abbrev sIsRel : Stmt := topS 13
abbrev sAllRel : Stmt := topS 14
abbrev sPlace : Stmt := topS 15
abbrev sHolds : Stmt := topS 16
abbrev sOnIn : Stmt := topS 17
abbrev sRelOn : Stmt := topS 18
abbrev sNeedRel : Stmt := topS 19
abbrev sMemOf : Stmt := topS 20
abbrev sTaken : Stmt := topS 22
abbrev sPick : Stmt := topS 23
abbrev sAlike : Stmt := topS 24
abbrev sLawAll : Stmt := topS 27
abbrev sLawRel : Stmt := topS 30
abbrev sLaw : Stmt := topS 31
theorem scIsIn : FnScope ["value", "least", "most"] ["value", "least", "most"] (defScope sIsIn) := ⟨rfl, rfl, rfl, by decide +kernel, rfl, by decide +kernel, by decide +kernel⟩
theorem scIsMem : FnScope ["value"] ["value"] (defScope sIsMem) := ⟨rfl, rfl, rfl, by decide +kernel, rfl, by decide +kernel, by decide +kernel⟩
theorem scNeedMem : FnScope ["memory"] ["memory"] (defScope sNeedMem) := ⟨rfl, rfl, rfl, by decide +kernel, rfl, by decide +kernel, by decide +kernel⟩
theorem scNeedSpan : FnScope ["span"] ["span"] (defScope sNeedSpan) := ⟨rfl, rfl, rfl, by decide +kernel, rfl, by decide +kernel, by decide +kernel⟩
theorem scAllMem : FnScope ["span", "found", "turn", "memory", "sign"] ["span"] (defScope sAllMem) := ⟨rfl, rfl, rfl, by decide +kernel, rfl, by decide +kernel, by decide +kernel⟩
theorem scIsRel : FnScope ["span", "value"] ["span", "value"] (defScope sIsRel) := ⟨rfl, rfl, rfl, by decide +kernel, rfl, by decide +kernel, by decide +kernel⟩
theorem scAllRel : FnScope ["span", "high", "low"] ["span"] (defScope sAllRel) := ⟨rfl, rfl, rfl, by decide +kernel, rfl, by decide +kernel, by decide +kernel⟩
theorem scPlace : FnScope ["memory", "sign", "number", "found", "at", "one"] ["memory", "sign", "number"] (defScope sPlace) := ⟨rfl, rfl, rfl, by decide +kernel, rfl, by decide +kernel, by decide +kernel⟩
theorem scHolds : FnScope ["memory", "relay", "high", "low"] ["memory", "relay"] (defScope sHolds) := ⟨rfl, rfl, rfl, by decide +kernel, rfl, by decide +kernel, by decide +kernel⟩
theorem scOnIn : FnScope ["memory", "relay"] ["memory"] (defScope sOnIn) := ⟨rfl, rfl, rfl, by decide +kernel, rfl, by decide +kernel, by decide +kernel⟩
theorem scRelOn : FnScope ["memory"] ["memory"] (defScope sRelOn) := ⟨rfl, rfl, rfl, by decide +kernel, rfl, by decide +kernel, by decide +kernel⟩
theorem scNeedRel : FnScope ["span", "relays", "index", "one"] ["span", "relays"] (defScope sNeedRel) := ⟨rfl, rfl, rfl, by decide +kernel, rfl, by decide +kernel, by decide +kernel⟩
theorem scMemOf : FnScope ["span", "relays", "memory"] ["span", "relays"] (defScope sMemOf) := ⟨rfl, rfl, rfl, by decide +kernel, rfl, by decide +kernel, by decide +kernel⟩
theorem scTaken : FnScope ["_law_row", "_law_many", "_law_found", "_law_cell"] ["_law_row", "_law_many"] (defScope sTaken) := ⟨rfl, rfl, rfl, by decide +kernel, rfl, by decide +kernel, by decide +kernel⟩
theorem scPick : FnScope ["_law_row", "_law_things"] ["_law_row", "_law_things"] (defScope sPick) := ⟨rfl, rfl, rfl, by decide +kernel, rfl, by decide +kernel, by decide +kernel⟩
theorem scAlike : FnScope ["_law_found", "_law_due", "_law_k"] ["_law_found", "_law_due"] (defScope sAlike) := ⟨rfl, rfl, rfl, by decide +kernel, rfl, by decide +kernel, by decide +kernel⟩
theorem scLawAll : FnScope ["_law_span", "_law_found", "_law_turn", "_law_memory_here"] ["_law_span"] (defScope sLawAll) := ⟨rfl, rfl, rfl, by decide +kernel, rfl, by decide +kernel, by decide +kernel⟩
theorem scLawRel : FnScope ["_law_span", "_law_found", "_law_high", "_law_low"] ["_law_span"] (defScope sLawRel) := ⟨rfl, rfl, rfl, by decide +kernel, rfl, by decide +kernel, by decide +kernel⟩
theorem scLaw : FnScope ["_law_script", "_law_row", "_law_span", "_law_some", "_law_memory_here", "_law_base", "_law_at", "_law_one", "_law_sets", "_law_table", "_law_k"] ["_law_script"] (defScope sLaw) := ⟨rfl, rfl, rfl, by decide +kernel, rfl, by decide +kernel, by decide +kernel⟩
/-! ### heaps -/
theorem same_upd {H : Hp} {p : Addr} {o : HO} (h : H p = none) : Same H (upd H p o) := fun _ _ there => (upd_ne (ne_of_none there h)).trans there
theorem Prs.same {H H' : Hp} (sm : Same H H') {xs : List V} {rs : List (Int × Int)} (h : Prs H xs rs) : Prs H' xs rs := Paired.mapP h fun x r ⟨t, z1, z2⟩ => ⟨t, z1, sm _ _ z2⟩
theorem TupR.same {H H' : Hp} (sm : Same H H') {a : Addr} {rs : List (Int × Int)} (h : TupR H a rs) : TupR H' a rs := let ⟨xs, e, p⟩ := h; ⟨xs, sm _ _ e, Prs.same sm p⟩
theorem LstR.same {H H' : Hp} (sm : Same H H') {a : Addr} {rs : List (Int × Int)} (h : LstR H a rs) : LstR H' a rs := let ⟨xs, e, p⟩ := h; ⟨xs, sm _ _ e, Prs.same sm p⟩
theorem Prs.append {H : Hp} : ∀ {xs ys : List V} {rs ss : List (Int × Int)}, Prs H xs rs → Prs H ys ss → Prs H (xs ++ ys) (rs ++ ss)
  | _, _, _, _, .nil, h => h
  | _, _, _, _, .cons r t, h => .cons r (Prs.append t h)
theorem Prs.get {H : Hp} {xs : List V} {rs : List (Int × Int)} {i : Nat} {r : Int × Int} (ps : Prs H xs rs) (e : rs[i]? = some r) : ∃ x, xs[i]? = some x ∧ PR H x r := by
  induction ps generalizing i with
  | nil => simp at e
  | cons one _ ih =>
    cases i with
    | zero => cases e; exact ⟨_, rfl, one⟩
    | succ i => exact ih (i := i) (by simpa using e)
theorem Prs.get' {H : Hp} {xs : List V} {rs : List (Int × Int)} {i : Nat} {x : V} (ps : Prs H xs rs) (e : xs[i]? = some x) : ∃ r, rs[i]? = some r ∧ PR H x r := by
  induction ps generalizing i with
  | nil => simp at e
  | cons one _ ih =>
    cases i with
    | zero => cases e; exact ⟨_, rfl, one⟩
    | succ i => exact ih (i := i) (by simpa using e)
theorem Prs.length {H : Hp} {xs : List V} {rs : List (Int × Int)} (h : Prs H xs rs) : xs.length = rs.length := Paired.length h
/-- a text of codes -/
def mkS (l : List Nat) : Str := ⟨l.toArray⟩
theorem mkS_len (l : List Nat) : (mkS l).length = l.length := by simp [mkS, Str.length]
theorem mkS_inj {a b : List Nat} (h : mkS a = mkS b) : a = b := by
  have e := congrArg (fun s : Str => s.cps.toList) h
  simpa [mkS] using e
theorem small64' {n : Nat} (h : n ≤ 64) : n < sizeLine := Nat.lt_of_le_of_lt h (by decide)
theorem small64le {n : Nat} (h : n ≤ 64) : n ≤ sizeLine := Nat.le_of_lt (small64' h)
section
variable {P : Program} {w : World} {K : PySem.W.Frag} {base : Heap} {mg : Str → Option Value}
/-! ### is_in -/
def spIsIn : Sp := fun vs H Q _ => ∃ v a b : Int, vs = [.int v, .int a, .int b] ∧ Q (.bl (decide (a ≤ v) && decide (v ≤ b))) H
theorem ok_isIn {f : Addr} {fd : FuncData} (F : Fun K "is_in" "is_in" sIsIn f fd) (mi : mg "isinstance" = none) (m1 : mg "int" = none) (m2 : mg "bool" = none) : FnOk P w K mg base CX0 1 f fd ["value", "least", "most"] spIsIn := by
  refine F.ok scIsIn (fun vs H Q E h => ?_) (fun cdv A outer s H vs Q E hr h => ?_)
  · obtain ⟨v, a, b, rfl, _⟩ := h
    rfl
  · obtain ⟨v, a, b, rfl, q⟩ := h
    refine ⟨_, pss_one (ps_ret (pe_and (pe_callB call_isi (by rfl) mi PyProof.Rows.boot_isinstance (pa_cons (pv 0) (pa_cons (pe_bltn (v := .ty "int") (by rfl) m1 boot_int rfl) pa_nil)))
      (pe_and (pe_not (pe_callB call_isi (by rfl) mi PyProof.Rows.boot_isinstance (pa_cons (pv 0) (pa_cons (pe_bltn (v := .ty "bool") (by rfl) m2 boot_bool rfl) pa_nil))))
      (pe_one (pe_chain op_le op_le (pv 1) (pv 0) (pv 2)))))), ?_⟩
    refine ⟨.int v, rfl, .int v, .ty "int", .type "int", .type "int", true, rfl, .ty "int", .base (.int v), kit_ty (by decide +kernel), true, rfl, iteT ?_⟩
    refine ⟨.int v, rfl, .int v, .ty "bool", .type "int", .type "bool", false, rfl, .ty "bool", .base (.int v), kit_ty (by decide +kernel), false, rfl, true, rfl, iteT ?_⟩
    refine ⟨.int a, rfl, .int v, rfl, a, v, rfl, rfl, decide (a ≤ v), rfl, ?_⟩
    by_cases h : a ≤ v
    · rw [decide_eq_true h] at q ⊢
      refine iteT ⟨.int b, rfl, v, b, rfl, rfl, ?_⟩
      exact q
    · rw [decide_eq_false h] at q ⊢
      exact iteF q
end
end K03

set_option Elab.async false
set_option linter.all false
set_option maxRecDepth 100000
set_option maxHeartbeats 1200000
namespace K03
open L2 PySem PySem.Spec PyProof.Rows
/-! ### loops and comprehensions, by any body -/
/-- what a rule asks of a loop over J from the heap H1 on, to end where Qd stands -/
abbrev Turns (J : It) (Body : V → Hp → (Hp → Prop) → Prop) (H1 : Hp) (Qd : Hp → Prop) : Prop := ∃ W : Nat → Nat → Hp → Prop, (∃ m, W 0 m H1) ∧ ∀ i m H, W i m H →
  ((J.stop i H ∧ Qd H) ∨ (J.go i H ∧ ∃ Nx : Hp → Prop, (∀ H', Nx H' → ∃ m', m' < m ∧ W (i + 1) m' H') ∧ ∀ x H', J.yld i H x H' → Body x H' Nx))
/-- any loop over a Walk: Pv at each turn; Body is what one item does to the heap -/
theorem it_walk {J : It} {n : Nat} {G : Hp → Prop} {Y : Nat → Hp → V → Hp → Prop} (walk : Walk J n G Y) {Body : V → Hp → (Hp → Prop) → Prop} {H1 : Hp} {Qd : Hp → Prop} (Pv : Nat → Hp → Prop) (h0 : Pv 0 H1)
    (stands : ∀ i H, i ≤ n → Pv i H → G H) (turn : ∀ i x H H', i < n → Pv i H → Y i H x H' → Body x H' (Pv (i + 1))) (fin : ∀ H, Pv n H → Qd H) : Turns J Body H1 Qd := by
  refine ⟨fun i left H => i + left = n ∧ Pv i H, ⟨n, Nat.zero_add n, h0⟩, fun i left H ⟨e, p⟩ => ?_⟩
  have g := stands i H (by omega) p
  cases left with
  | zero =>
    cases e
    exact .inl ⟨walk.stops H g, fin H p⟩
  | succ left =>
    have lt : i < n := by omega
    exact .inr ⟨walk.goes i H lt g, Pv (i + 1), fun H' p' => ⟨left, Nat.lt_succ_self left, by omega, p'⟩, fun x H' y => turn i x H H' lt p (walk.yields i H x H' lt g y)⟩
theorem it_list {K : PySem.W.Frag} {a : Addr} {xs : List V} {Body : V → Hp → (Hp → Prop) → Prop} {H1 : Hp} {Qd : Hp → Prop} (Pv : Nat → Hp → Prop) (h0 : Pv 0 H1) (hl : ∀ i H, i ≤ xs.length → Pv i H → SqL K H a xs)
    (hs : ∀ i x H, xs[i]? = some x → Pv i H → Body x H (Pv (i + 1))) (hd : ∀ H, Pv xs.length H → Qd H) : Turns (Itl K a) Body H1 Qd :=
  it_walk (walk_list (K := K) (a := a)) (Body := Body) Pv h0 hl (fun i x H _ _ p ⟨e, y⟩ => e ▸ hs i x H y p) hd
theorem it_range {lo : Int} {n : Nat} {Body : V → Hp → (Hp → Prop) → Prop} {H1 : Hp} {Qd : Hp → Prop} (Pv : Nat → Hp → Prop) (h0 : Pv 0 H1)
    (hs : ∀ i H, i < n → Pv i H → Body (.int (lo + i)) H (Pv (i + 1))) (hd : ∀ H, Pv n H → Qd H) : Turns (Itr lo n) Body H1 Qd :=
  it_walk (walk_range (lo := lo) (n := n)) (Body := Body) Pv h0 (fun _ _ _ _ => trivial) (fun i x H _ lt p ⟨e, y⟩ => e ▸ y ▸ hs i H lt p) hd
theorem it_str {x : Str} {Body : V → Hp → (Hp → Prop) → Prop} {H1 : Hp} {Qd : Hp → Prop} (Pv : Nat → Hp → Prop) (h0 : Pv 0 H1)
    (hs : ∀ i c H, x.cps[i]? = some c → Pv i H → Body (.str ⟨#[c]⟩) H (Pv (i + 1))) (hd : ∀ H, Pv x.cps.size H → Qd H) : Turns (Its x) Body H1 Qd :=
  it_walk (walk_str (z := x)) (Body := Body) Pv h0 (fun _ _ _ _ => trivial) (fun i y H _ _ p ⟨e, c, hc, ey⟩ => e ▸ ey ▸ hs i c H hc p) hd
theorem tYes_if {σ : L2.St} {H : Hp} {A B : Hp → Prop} (h : A H) : tYes σ H (fun b H3 => if b = true then A H3 else B H3) := by
  show (if true = true then A H else B H)
  rw [if_pos rfl]
  exact h
/-! ### texts -/
theorem s0 : (Str.ofString "0") = mkS [48] := by decide +kernel
theorem s1 : (Str.ofString "1") = mkS [49] := by decide +kernel
theorem s01 : (Str.ofString "01") = mkS [48, 49] := by decide +kernel
theorem sE : (Str.ofString "") = mkS [] := by decide +kernel
theorem mkS_one (c : Nat) : (⟨#[c]⟩ : Str) = mkS [c] := rfl
theorem mkS_app (a b : List Nat) : mkS a ++ mkS b = mkS (a ++ b) := by
  show Str.mk (a.toArray ++ b.toArray) = Str.mk (a ++ b).toArray
  simp
theorem mkS_get (l : List Nat) (i : Nat) : (mkS l).cps[i]? = l[i]? := by simp [mkS]
theorem mkS_size (l : List Nat) : (mkS l).cps.size = l.length := by simp [mkS]
abbrev strV (l : List Nat) : V := .str (mkS l)
theorem strV_eq (a b : List Nat) : decide (strV a = strV b) = decide (a = b) := by
  rw [decide_eq_decide]
  exact ⟨fun e => mkS_inj (V.str.inj e), fun e => by rw [e]⟩
theorem upd_keep {H H0 : Hp} {D : Addr} {o : HO} (sm : Same H0 H) (nD : H0 D = none) : Same H0 (upd H D o) := fun b u e => by
  rw [upd_ne (ne_of_none e nD)]
  exact sm b u e
theorem Prs.updL {H : Hp} {D : Addr} {acc : List V} {o : HO} (hD : H D = some (.lst acc)) {xs : List V} {rs : List (Int × Int)} (h : Prs H xs rs) : Prs (upd H D o) xs rs := Paired.mapP h fun x r ⟨t, z1, z2⟩ =>
  ⟨t, z1, by rw [upd_ne (ne_of z2 hD (by intro z; cases z))]; exact z2⟩
section
variable {P : Program} {w : World} {K : PySem.W.Frag} {base : Heap} {mg : Str → Option Value}
/-! ### need_span -/
def spNeedSpan : Sp := fun vs H Q _ => ∃ v : Int, vs = [.int v] ∧ 1 ≤ v ∧ v ≤ 9 ∧ Q .non H
theorem ok_needSpan {f fI : Addr} {fd fdI : FuncData} (F : Fun K "need_span" "need_span" sNeedSpan f fd) (FI : Fun K "is_in" "is_in" sIsIn fI fdI) (bI : Binds K fdI ["value", "least", "most"] []) (gI : mg "is_in" = some (.ref fI))
    (GI : FnOk P w K mg base CX0 1 fI fdI ["value", "least", "most"] spIsIn) {t9 : Tok} (m9 : mg "MOST_SPAN" = some (.int 9 t9)) : FnOk P w K mg base CX0 2 f fd ["span"] spNeedSpan := by
  refine F.ok scNeedSpan (fun vs H Q E h => ?_) (fun cdv A outer s H vs Q E hr h => ?_)
  · obtain ⟨v, rfl, _⟩ := h
    rfl
  · obtain ⟨v, rfl, h1, h9, q⟩ := h
    refine ⟨_, pss_one (ps_if (pt_not (pt_val (pe_call GI hr (by rfl) gI FI.kp bI .nil pass0 (pa_cons (pv 0) (pa_cons pe_int (pa_cons (pe_glob (v := .int 9) (by rfl) m9 ⟨_, rfl⟩) pa_nil)))))) (pss_one ps_never) pss_nil), ?_⟩
    refine ⟨.int v, rfl, v, 1, 9, rfl, true, ?_, iteF q⟩
    rw [decide_eq_true h1, decide_eq_true h9]
    rfl
/-! ### all_memories -/
def spAllMem : Sp := fun vs H Q _ => ∃ n : Nat, vs = [.int n] ∧ n ≤ 5 ∧ ∀ H' p, Same H H' → H p = none → H' p = some (.lst ((allMem n).map strV)) → Q (.ref p) H'
def ext2 (m : List Nat) : List (List Nat) := [m ++ [48], m ++ [49]]
theorem allMem_len : ∀ n, (allMem n).length = 2 ^ n
  | 0 => rfl
  | n + 1 => by
    have e : allMem (n + 1) = (allMem n).flatMap ext2 := rfl
    have h : ∀ l : List (List Nat), (l.flatMap ext2).length = 2 * l.length := fun l => by
      induction l with
      | nil => rfl
      | cons x l ih =>
        rw [List.flatMap_cons, List.length_append, ih, List.length_cons]
        show 2 + 2 * l.length = _
        omega
    rw [e, h, allMem_len n, Nat.pow_succ]
    omega
theorem ext2_len (l : List (List Nat)) : (l.flatMap ext2).length = 2 * l.length := by
  induction l with
  | nil => rfl
  | cons x l ih =>
    rw [List.flatMap_cons, List.length_append, ih, List.length_cons]
    show 2 + 2 * l.length = _
    omega
theorem take_succ_get {α : Type} {l : List α} {i : Nat} {x : α} (h : l[i]? = some x) : l.take (i + 1) = l.take i ++ [x] := by
  rw [List.take_add_one, h]
  rfl
theorem ok_allMem {f : Addr} {fd : FuncData} (F : Fun K "all_memories" "all_memories" sAllMem f fd) (mr : mg "range" = none) : FnOk P w K mg base CX0 1 f fd ["span"] spAllMem := by
  refine F.ok scAllMem (fun vs H Q E h => ?_) (fun cdv A outer s H vs Q E hr h => ?_)
  · obtain ⟨n, rfl, _⟩ := h
    rfl
  · obtain ⟨n, rfl, hn, q⟩ := h
    refine ⟨_, pss_cons (ps_set (i := 1) scAllMem.nd rfl (.inl rfl) (pe_lst (pa_cons pe_str pa_nil)))
      (pss_cons (ps_for PassesOwn.never rfl (pi_range1 (by rfl) mr (pa_cons (pv 0) pa_nil)) (pg_name (i := 2) scAllMem.nd rfl (.inl rfl))
        (pss_one (ps_setLc2 (i := 1) (own := [("memory", 3), ("sign", 4)]) (vs1 := [4]) rfl scAllMem.nd rfl rfl (sw_true rfl rfl rfl (by decide +kernel)) (pi_list (pv 1)) (blkOk_by (N := ["span", "found", "turn", "memory", "sign"]) (sc := defScope sAllMem) (by decide +kernel)) (by decide)
          (fun _ _ _ _ _ => pg_name (i := 3) scAllMem.nd rfl (Or.inl rfl)) (fun _ _ _ _ _ => pts_nil) (fun _ _ _ _ _ => pi_str pe_str) (fun _ _ _ _ _ => pg_name (i := 4) scAllMem.nd rfl (Or.inl rfl)) (fun _ _ _ _ _ => pts_nil)
          (fun _ _ _ _ _ => pe_op op_add_str (pv 3) (pv 4))))) (pss_one (ps_ret (pv 1)))), ?_⟩
    -- found = ['']
    refine ⟨by show 1 ≤ sizeLine; decide, fun o no => ?_⟩
    -- for turn in range(span)
    refine ⟨.int n, rfl, n, rfl, by omega, by omega, ?_⟩
    rw [show ((n : Int)).toNat = n from rfl]
    refine for_range (lo := 0) (n := n) (fun i σ H3 => ∃ p y2, σ = [some (.int n), some (.ref p), y2, none, none] ∧ Same H H3 ∧ H p = none ∧ H3 p = some (.lst ((allMem i).map strV))) ⟨o, none, rfl, same_upd no, no, ?_⟩ (fun i σ H3 hi hP => ?_) (fun σ H3 hP => ?_)
    · rw [upd_same, sE]
      rfl
    · obtain ⟨p, y2, rfl, sm, np, hp⟩ := hP
      have hz : (allMem i).length ≤ 16 := by
        rw [allMem_len]
        exact Nat.pow_le_pow_right (n := 2) (by decide) (show i ≤ 4 by omega)
      refine ⟨.ref p, rfl, p, rfl, ⟨_, SqL.of hp⟩, fun D nD => ?_⟩
      have nDH : H D = none := sm.free nD
      have npD : p ≠ D := ne_of_none hp nD
      refine it_list (xs := (allMem i).map strV) (fun j H4 => Same H3 H4 ∧ H4 D = some (.lst ((((allMem i).take j).flatMap ext2).map strV))) ⟨same_upd nD, upd_same⟩ (fun j H4 _ h4 => SqL.of (h4.1 _ _ hp)) (fun j x H4 hx h4 => ?_) (fun H4 h4 => ?_)
      · -- one memory
        obtain ⟨sm4, hD4⟩ := h4
        rw [List.getElem?_map] at hx
        cases hm : (allMem i)[j]? with
        | none => rw [hm] at hx; cases hx
        | some m =>
          rw [hm] at hx
          cases hx
          refine ⟨rfl, tYes_if ⟨Str.ofString "01", rfl, ?_⟩⟩
          rw [s01]
          refine it_str (x := mkS [48, 49]) (fun k H5 => Same H3 H5 ∧ H5 D = some (.lst ((((allMem i).take j).flatMap ext2 ++ (ext2 m).take k).map strV))) ⟨sm4, by rw [hD4]; simp⟩ (fun k c H5 hc h5 => ?_) (fun H5 h5 => ?_)
          · obtain ⟨sm5, hD5⟩ := h5
            rw [mkS_get] at hc
            have hk : k < 2 := (List.getElem?_eq_some_iff.mp hc).1
            have hm2 : m.length ≤ 5 := by
              have := (mem_allMem (n := i)).mp (List.mem_of_getElem? hm)
              omega
            refine ⟨rfl, tYes_if ⟨_, rfl, _, rfl, mkS m, _, rfl, rfl, ?_, _, hD5, ?_, upd_keep sm5 nD, ?_⟩⟩
            · rw [mkS_len]
              exact small64le (by show m.length + 1 ≤ 64; omega)
            · have e1 := ext2_len ((allMem i).take j)
              have e2 : ((allMem i).take j).length ≤ (allMem i).length := by rw [List.length_take]; omega
              have e3 := List.length_take_le k (ext2 m)
              have e4 : (ext2 m).length = 2 := rfl
              rw [List.length_map, List.length_append]
              exact small64' (by omega)
            · have e : (ext2 m)[k]? = some (m ++ [c]) := by
                have : k = 0 ∨ k = 1 := by omega
                rcases this with e | e <;> subst e <;> (cases hc; rfl)
              rw [upd_same, mkS_one, mkS_app, take_succ_get e, ← List.append_assoc, List.map_append (l₂ := [m ++ [c]])]
              rfl
          · refine ⟨h5.1, ?_⟩
            rw [h5.2, take_succ_get hm, List.flatMap_append]
            simp [ext2, mkS_size]
      · -- the turn's end
        refine ⟨D, _, rfl, sm.trans h4.1, nDH, ?_⟩
        rw [h4.2, List.length_map, List.take_length]
        rfl
    · obtain ⟨p, y2, rfl, sm, np, hp⟩ := hP
      exact ⟨.ref p, rfl, q H3 p sm np hp⟩
end
end K03

set_option Elab.async false
set_option linter.all false
set_option maxRecDepth 100000
set_option maxHeartbeats 1200000
namespace K03
open L2 PySem PySem.Spec PyProof.Rows
section
variable {P : Program} {w : World} {K : PySem.W.Frag} {base : Heap} {mg : Str → Option Value}
/-! ### is_relay -/
def spIsRel : Sp := fun vs H Q _ => ∃ (n : Int) (t : Addr) (i j : Int), vs = [.int n, .ref t] ∧ H t = some (.tup [.int i, .int j]) ∧ 1 ≤ i ∧ i ≤ n ∧ 0 ≤ j ∧ j ≤ i - 1 ∧ Q (.bl true) H
theorem ok_isRel {f fI : Addr} {fd fdI : FuncData} (F : Fun K "is_relay" "is_relay" sIsRel f fd) (FI : Fun K "is_in" "is_in" sIsIn fI fdI) (bI : Binds K fdI ["value", "least", "most"] []) (gI : mg "is_in" = some (.ref fI))
    (GI : FnOk P w K mg base CX0 1 fI fdI ["value", "least", "most"] spIsIn) (mi : mg "isinstance" = none) (mt : mg "tuple" = none) (ml : mg "len" = none) : FnOk P w K mg base CX0 2 f fd ["span", "value"] spIsRel := by
  refine F.ok scIsRel (fun vs H Q E h => ?_) (fun cdv A outer s H vs Q E hr h => ?_)
  · obtain ⟨n, t, i, j, rfl, _⟩ := h
    rfl
  · obtain ⟨n, t, i, j, rfl, ht, h1, h2, h3, h4, q⟩ := h
    refine ⟨_, pss_cons (ps_if (PW.pt (pw_or (pt_not (pt_val (pe_callB call_isi (by rfl) mi PyProof.Rows.boot_isinstance (pa_cons (pv 1) (pa_cons (pe_bltn (v := .ty "tuple") (by rfl) mt boot_tuple rfl) pa_nil)))))
        (pw_or (pt_cmpR op_ne (pe_callB call_len_seq (by rfl) ml PySem.boot_len (pa_cons (pv 1) pa_nil)) pe_int (nomark _))
        (pw_or1 (pt_not (pt_val (pe_call GI hr (by rfl) gI FI.kp bI .nil pass0 (pa_cons (pe_ix ix_tup (pv 1) pe_int (fun _ _ => rfl)) (pa_cons pe_int (pa_cons (pv 0) pa_nil))))))))))
        (pss_one ps_never) pss_nil)
      (pss_one (ps_ret (pe_call GI hr (by rfl) gI FI.kp bI .nil pass0 (pa_cons (pe_ix ix_tup (pv 1) pe_int (fun _ _ => rfl)) (pa_cons pe_int (pa_cons (pe_op op_sub (pe_ix ix_tup (pv 1) pe_int (fun _ _ => rfl)) pe_int) pa_nil)))))), ?_⟩
    have hT : SqT K H t [.int i, .int j] := SqT.of ht
    refine ⟨.ref t, rfl, .ref t, .ty "tuple", .type "tuple", .type "tuple", true, rfl, .ty "tuple", .base (.tup ht), kit_ty (by decide +kernel), true, rfl, iteF ?_⟩
    refine ⟨.ref t, rfl, t, _, rfl, .inr hT, rfl, false, rfl, iteF ?_⟩
    refine ⟨.ref t, rfl, t, _, 0, .int i, rfl, rfl, hT, atI_nat (j := 0) rfl, .int n, rfl, i, 1, n, rfl, true, ?_, iteF ?_⟩
    · rw [decide_eq_true h1, decide_eq_true h2]
      rfl
    · refine ⟨.ref t, rfl, t, _, 1, .int j, rfl, rfl, hT, atI_nat (j := 1) rfl, .ref t, rfl, t, _, 0, .int i, rfl, rfl, hT, atI_nat (j := 0) rfl, i, 1, rfl, rfl, j, 0, i - 1, rfl, ?_⟩
      rw [decide_eq_true h3, decide_eq_true h4]
      exact q
/-! ### all_relays -/
def rowR (h : Nat) : List (Int × Int) := (List.range (h + 1)).map fun (l : Nat) => ((1 : Int) + (h : Int), (l : Int))
theorem allRel_eq (n : Nat) : allRel n = (List.range n).flatMap rowR := rfl
def spAllRel : Sp := fun vs H Q _ => ∃ n : Nat, vs = [.int n] ∧ n ≤ 5 ∧ ∀ H' p, Same H H' → H p = none → LstR H' p (allRel n) → Q (.ref p) H'
theorem rows_len (i : Nat) : i ≤ 5 → ((List.range i).flatMap rowR).length ≤ 15 := by
  intro h
  have : i = 0 ∨ i = 1 ∨ i = 2 ∨ i = 3 ∨ i = 4 ∨ i = 5 := by omega
  rcases this with e | e | e | e | e | e <;> subst e <;> decide
theorem ok_allRel {f : Addr} {fd : FuncData} (F : Fun K "all_relays" "all_relays" sAllRel f fd) (mr : mg "range" = none) : FnOk P w K mg base CX0 1 f fd ["span"] spAllRel := by
  refine F.ok scAllRel (fun vs H Q E h => ?_) (fun cdv A outer s H vs Q E hr h => ?_)
  · obtain ⟨n, rfl, _⟩ := h
    rfl
  · obtain ⟨n, rfl, hn, q⟩ := h
    refine ⟨_, pss_one (ps_ret (pe_lc2 (own := [("high", 1), ("low", 2)]) (vs1 := [2]) rfl scAllRel.nd (pi_range2 (by rfl) mr (pa_cons pe_int (pa_cons (pe_op op_add (pv 0) pe_int) pa_nil))) (blkOk_by (N := ["span", "high", "low"]) (sc := defScope sAllRel) (by decide +kernel)) (by decide)
          (fun _ _ _ _ _ => pg_name (i := 1) scAllRel.nd rfl (Or.inl rfl)) (fun _ _ _ _ _ => pts_nil) (fun _ _ _ _ _ => pi_range1 (by rfl) mr (pa_cons (pv 1) pa_nil)) (fun _ _ _ _ _ => pg_name (i := 2) scAllRel.nd rfl (Or.inl rfl)) (fun _ _ _ _ _ => pts_nil)
          (fun _ _ _ _ _ => pe_tup (pa_cons (pv 1) (pa_cons (pv 2) pa_nil))))), ?_⟩
    refine ⟨.int n, rfl, n, 1, rfl, rfl, 1, (n : Int) + 1, rfl, ⟨by omega, by omega, by omega, by omega⟩, ?_⟩
    rw [show ((n : Int) + 1 - 1).toNat = n by omega]
    intro D nD
    refine it_range (lo := 1) (n := n) (fun i H3 => Same H H3 ∧ ∃ acc, H3 D = some (.lst acc) ∧ Prs H3 acc ((List.range i).flatMap rowR)) ⟨same_upd nD, [], upd_same, .nil⟩ (fun i H3 hi h3 => ?_) (fun H3 h3 => ?_)
    · obtain ⟨sm3, acc, hD3, hA3⟩ := h3
      refine ⟨rfl, tYes_if ⟨.int (1 + i), rfl, 1 + i, rfl, by omega, by omega, ?_⟩⟩
      rw [show (1 + (i : Int)).toNat = i + 1 by omega]
      refine it_range (lo := 0) (n := i + 1) (fun j H4 => Same H H4 ∧ ∃ acc, H4 D = some (.lst acc) ∧ Prs H4 acc ((List.range i).flatMap rowR ++ (List.range j).map fun (l : Nat) => ((1 : Int) + (i : Int), (l : Int)))) ⟨sm3, acc, hD3, by simpa using hA3⟩ (fun j H4 hj h4 => ?_) (fun H4 h4 => ?_)
      · obtain ⟨sm4, acc4, hD4, hA4⟩ := h4
        refine ⟨rfl, tYes_if ⟨.int (1 + i), rfl, .int (0 + j), rfl, by show 2 ≤ sizeLine; decide, fun T nT => ?_⟩⟩
        have nTD : D ≠ T := ne_of_none hD4 nT
        have hl : acc4.length ≤ 30 := by
          rw [hA4.length, List.length_append, List.length_map, List.length_range]
          have := rows_len i (by omega)
          omega
        refine ⟨acc4, by rw [upd_ne nTD]; exact hD4, small64' (by omega), upd_keep (sm4.trans (same_upd nT)) nD, acc4 ++ [.ref T], upd_same, ?_⟩
        have hA5 : Prs (upd H4 T (.tup [.int (1 + i), .int (0 + j)])) acc4 ((List.range i).flatMap rowR ++ (List.range j).map fun (l : Nat) => ((1 : Int) + (i : Int), (l : Int))) := Prs.same (same_upd nT) hA4
        have hN : Prs (upd H4 T (.tup [.int (1 + i), .int (0 + j)])) [.ref T] [((1 : Int) + (i : Int), (j : Int))] := .cons ⟨T, rfl, by rw [upd_same, Int.zero_add]⟩ .nil
        have := Prs.updL (o := .lst (acc4 ++ [.ref T])) (D := D) (show (upd H4 T (.tup [.int (1 + i), .int (0 + j)])) D = some (.lst acc4) by rw [upd_ne nTD]; exact hD4) (Prs.append hA5 hN)
        rw [List.range_succ, List.map_append, ← List.append_assoc]
        exact this
      · obtain ⟨sm4, acc4, hD4, hA4⟩ := h4
        refine ⟨sm4, acc4, hD4, ?_⟩
        rw [List.range_succ, List.flatMap_append]
        simpa [rowR] using hA4
    · obtain ⟨sm3, acc, hD3, hA3⟩ := h3
      exact q H3 D sm3 nD ⟨acc, hD3, hA3⟩
/-! ### place -/
def spPlace : Sp := fun vs H Q _ => ∃ (l : List Nat) (d k : Nat), vs = [.str (mkS l), .str (mkS [d]), .int k] ∧ l.length ≤ 9 ∧ 1 ≤ k ∧ ∀ H', Same H H' → Q (.int (placeF l d k : Nat)) H'
theorem ok_place {f : Addr} {fd : FuncData} (F : Fun K "place" "place" sPlace f fd) (me : mg "enumerate" = none) (ml : mg "len" = none) : FnOk P w K mg base CX0 1 f fd ["memory", "sign", "number"] spPlace := by
  refine F.ok scPlace (fun vs H Q E h => ?_) (fun cdv A outer s H vs Q E hr h => ?_)
  · obtain ⟨l, d, k, rfl, _⟩ := h
    rfl
  · obtain ⟨l, d, k, rfl, hl, hk, q⟩ := h
    refine ⟨_, pss_cons (ps_setLc (i := 3) (own := [("at", 4), ("one", 5)]) (g := gTup K 2 (gCons (gName 4) (gCons (gName 5) gNil))) rfl scPlace.nd rfl rfl (sw_true rfl rfl rfl (by decide +kernel)) (pi_E (by rfl) me (pa_cons (pv 0) pa_nil)) (blkOk_by (N := ["memory", "sign", "number", "found", "at", "one"]) (sc := defScope sPlace) (by decide +kernel))
        (fun _ _ _ _ _ => by exact pg_tup rfl (pgs_cons (pg_name (i := 4) scPlace.nd rfl (Or.inl rfl)) (pgs_cons (pg_name (i := 5) scPlace.nd rfl (Or.inl rfl)) pgs_nil))) (fun _ _ _ _ _ => pts_one (pt_cmpR op_eq (pv 5) (pv 1) (nomark _))) (fun _ _ _ _ _ => pv 4))
      (pss_one (ps_ret (pe_ifExp (pt_cmpR op_le (pv 2) (pe_callB call_len_seq (by rfl) ml PySem.boot_len (pa_cons (pv 3) pa_nil)) (nomark _)) (pe_ix ix_list (pv 3) (pe_op op_sub (pv 2) pe_int) (fun _ _ => rfl))
        (pe_callB call_len_str (by rfl) ml PySem.boot_len (pa_cons (pv 0) pa_nil))))), ?_⟩
    refine ⟨.str (mkS l), rfl, _, _, _, _, rfl, enu_text l, trivial, fun D nD => ?_⟩
    refine it_walk walk_E (fun i H3 => Same H H3 ∧ H3 D = some (.lst (((List.range i).filter fun j => decide (l[j]? = some d)).map fun (j : Nat) => V.int (j : Int)))) ⟨same_upd nD, upd_same⟩ (fun _ _ _ _ => trivial) (fun i x H3 H' hi h3 y => ?_) (fun H3 h3 => ?_)
    · obtain ⟨sm3, hD3⟩ := h3
      obtain ⟨T, rfl, nT, rfl⟩ : ∃ T, x = .ref T ∧ H3 T = none ∧ H' = upd H3 T (.tup [.int (i : Nat), .str ⟨#[l.getD i 0]⟩]) := y
      have hc : l[i]? = some (l.getD i 0) := by rw [List.getD_eq_getElem?_getD, List.getElem?_eq_getElem hi]; rfl
      generalize l.getD i 0 = c at hc ⊢
      have nTD : D ≠ T := ne_of_none hD3 nT
      have smT : Same H (upd H3 T (.tup [.int (i : Nat), .str ⟨#[c]⟩])) := sm3.trans (same_upd nT)
      have hDT : (upd H3 T (.tup [.int (i : Nat), .str ⟨#[c]⟩])) D = some (.lst (((List.range i).filter fun j => decide (l[j]? = some d)).map fun (j : Nat) => V.int (j : Int))) := by
        rw [upd_ne nTD]
        exact hD3
      refine ⟨T, _, rfl, .inl (.inl upd_same), rfl, _, _, rfl, _, _, rfl, rfl, rfl, .str ⟨#[c]⟩, rfl, .str (mkS [d]), rfl, rfl, _, rfl, ite2 (fun e => ?_) (fun e => ?_)⟩
      · have e2 : c = d := by
          have := mkS_inj (V.str.inj (of_decide_eq_true e))
          simpa using this
        subst e2
        refine ⟨.int (i : Nat), rfl, _, hDT, ?_, upd_keep smT nD, ?_⟩
        · rw [List.length_map]
          have := List.length_filter_le (fun j => decide (l[j]? = some c)) (List.range i)
          rw [List.length_range] at this
          exact small64' (by omega)
        · rw [upd_same, List.range_succ, List.filter_append, List.map_append, List.filter_cons_of_pos (by rw [hc]; simp)]
          rfl
      · have e2 : c ≠ d := fun z => e (by rw [z]; exact decide_eq_true rfl)
        refine ⟨smT, ?_⟩
        rw [hDT, List.range_succ, List.filter_append, List.filter_cons_of_neg (by rw [hc]; simp [e2])]
        simp
    · obtain ⟨sm3, hD3⟩ := h3
      have hD4 : H3 D = some (.lst ((posF d l).map fun (j : Nat) => V.int (j : Int))) := hD3
      have hS : SqL K H3 D ((posF d l).map fun (j : Nat) => V.int (j : Int)) := SqL.of hD4
      refine ⟨.int k, rfl, .ref D, rfl, D, _, rfl, .inl hS, _, _, rfl, rfl, _, rfl, ite2 (fun e => ?_) (fun e => ?_)⟩
      · have e2 : k ≤ (posF d l).length := by
          have := of_decide_eq_true e
          rw [List.length_map] at this
          omega
        have hg := posF_get (c := d) hk e2
        refine ⟨.ref D, rfl, .int k, rfl, k, 1, rfl, rfl, D, _, (k : Int) - 1, .int ((posF d l).getD (k - 1) 0 : Nat), rfl, rfl, hS, ?_, ?_⟩
        · rw [show ((k : Int) - 1) = ((k - 1 : Nat) : Int) by omega]
          refine atI_nat ?_
          rw [List.getElem?_map, hg]
          rfl
        · have z := q H3 sm3
          unfold placeF at z
          rw [if_pos e2] at z
          exact z
      · have e2 : ¬ k ≤ (posF d l).length := fun z => e (by rw [List.length_map]; exact decide_eq_true (by omega))
        refine ⟨.str (mkS l), rfl, mkS l, rfl, by rw [mkS_len]; exact small64le (by omega), ?_⟩
        rw [mkS_len]
        have z := q H3 sm3
        unfold placeF at z
        rw [if_neg e2] at z
        exact z
/-! ### holds -/
def spHolds : Sp := fun vs H Q _ => ∃ (l : List Nat) (t : Addr) (r : Int × Int), vs = [.str (mkS l), .ref t] ∧ H t = some (.tup [.int r.1, .int r.2]) ∧ l.length ≤ 9 ∧ 0 ≤ r.2 ∧ r.1 ≤ l.length ∧ ∀ H', Same H H' → Q (.bl (holdsF l r)) H'
theorem ok_holds {f fP : Addr} {fd fdP : FuncData} (F : Fun K "holds" "holds" sHolds f fd) (FP : Fun K "place" "place" sPlace fP fdP) (bP : Binds K fdP ["memory", "sign", "number"] []) (gP : mg "place" = some (.ref fP))
    (GP : FnOk P w K mg base CX0 1 fP fdP ["memory", "sign", "number"] spPlace) (ml : mg "len" = none) : FnOk P w K mg base CX0 2 f fd ["memory", "relay"] spHolds := by
  refine F.ok scHolds (fun vs H Q E h => ?_) (fun cdv A outer s H vs Q E hr h => ?_)
  · obtain ⟨l, t, r, rfl, _⟩ := h
    rfl
  · obtain ⟨l, t, r, rfl, ht, hl, h0, h1, q⟩ := h
    refine ⟨_, pss_cons (ps_asg (pv 1) (pg_tup rfl (pgs_cons (pg_name (i := 2) scHolds.nd rfl (Or.inl rfl)) (pgs_cons (pg_name (i := 3) scHolds.nd rfl (Or.inl rfl)) pgs_nil))))
      (pss_one (ps_ret (pe_cmpR op_lt (pe_call GP hr (by rfl) gP FP.kp bP .nil pass0 (pa_cons (pv 0) (pa_cons pe_str (pa_cons (pe_op op_add (pv 3) pe_int) pa_nil))))
        (pe_call GP hr (by rfl) gP FP.kp bP .nil pass0 (pa_cons (pv 0) (pa_cons pe_str (pa_cons (pe_op op_add (pe_op op_sub (pe_callB call_len_str (by rfl) ml PySem.boot_len (pa_cons (pv 0) pa_nil)) (pv 2)) pe_int) pa_nil)))) (nomark _)))), ?_⟩
    refine ⟨.ref t, rfl, t, _, rfl, SqT.of ht, rfl, _, _, rfl, _, _, rfl, rfl, ?_⟩
    refine ⟨.str (mkS l), rfl, .int r.2, rfl, r.2, 1, rfl, rfl, l, 49, (r.2 + 1).toNat, ?_, hl, by omega, fun H1 sm1 => ?_⟩
    · rw [s1, show ((r.2 + 1).toNat : Int) = r.2 + 1 by omega]
      rfl
    · refine ⟨.str (mkS l), rfl, .str (mkS l), rfl, mkS l, rfl, by rw [mkS_len]; exact small64le (by omega), .int r.1, rfl, _, _, rfl, rfl, _, _, rfl, rfl, l, 48, ((l.length : Int) - r.1 + 1).toNat, ?_, hl, by omega, fun H2 sm2 => ?_⟩
      · rw [s0, mkS_len, show (((l.length : Int) - r.1 + 1).toNat : Int) = (l.length : Int) - r.1 + 1 by omega]
        rfl
      · refine ⟨_, _, rfl, rfl, ?_⟩
        have z := q H2 (sm1.trans sm2)
        unfold holdsF at z
        show Q (.bl (decide (((placeF l 49 (r.2 + 1).toNat : Nat) : Int) < ((placeF l 48 ((l.length : Int) - r.1 + 1).toNat : Nat) : Int)))) H2
        rw [show decide (((placeF l 49 (r.2 + 1).toNat : Nat) : Int) < ((placeF l 48 ((l.length : Int) - r.1 + 1).toNat : Nat) : Int)) = decide (placeF l 49 (r.2 + 1).toNat < placeF l 48 ((l.length : Int) - r.1 + 1).toNat) from decide_eq_decide.mpr (by omega)]
        exact z
/-! ### on_in -/
def spOnIn : Sp := fun vs H Q _ => ∃ (l : List Nat), vs = [.str (mkS l)] ∧ 1 ≤ l.length ∧ l.length ≤ 5 ∧ ∀ H' p, Same H H' → H p = none → LstR H' p (onF l) → Q (.ref p) H'
theorem ok_onIn {f fH fA : Addr} {fd fdH fdA : FuncData} (F : Fun K "on_in" "on_in" sOnIn f fd) (FH : Fun K "holds" "holds" sHolds fH fdH) (bH : Binds K fdH ["memory", "relay"] []) (gH : mg "holds" = some (.ref fH))
    (FA : Fun K "all_relays" "all_relays" sAllRel fA fdA) (bA : Binds K fdA ["span"] []) (gA : mg "all_relays" = some (.ref fA))
    (GH : FnOk P w K mg base CX0 2 fH fdH ["memory", "relay"] spHolds) (GA : FnOk P w K mg base CX0 1 fA fdA ["span"] spAllRel) (ml : mg "len" = none) : FnOk P w K mg base CX0 3 f fd ["memory"] spOnIn := by
  refine F.ok scOnIn (fun vs H Q E h => ?_) (fun cdv A outer s H vs Q E hr h => ?_)
  · obtain ⟨l, rfl, _⟩ := h
    rfl
  · obtain ⟨l, rfl, h1, h5, q⟩ := h
    refine ⟨_, pss_one (ps_ret (pe_lc (own := [("relay", 1)]) rfl scOnIn.nd (pi_list (pe_call GA (hr.mono (by decide)) (by rfl) gA FA.kp bA .nil pass0 (pa_cons (pe_callB call_len_str (by rfl) ml PySem.boot_len (pa_cons (pv 0) pa_nil)) pa_nil))) (blkOk_by (N := ["memory", "relay"]) (sc := defScope sOnIn) (by decide +kernel))
        (fun _ _ _ _ _ => pg_name (i := 1) scOnIn.nd rfl (Or.inl rfl)) (fun _ _ _ _ _ => pts_one (pt_val (pe_call GH hr (by rfl) gH FH.kp bH .nil pass0 (pa_cons (pv 0) (pa_cons (pv 1) pa_nil))))) (fun _ _ _ _ _ => pv 1))), ?_⟩
    refine ⟨.str (mkS l), rfl, mkS l, rfl, by rw [mkS_len]; exact small64le (by omega), l.length, by rw [mkS_len]; rfl, by omega, fun H1 p sm1 np hp => ?_⟩
    obtain ⟨xs, hxs, hps⟩ := hp
    have hn : l.length ∈ spans := mem_spans h1 h5
    refine ⟨p, rfl, ⟨xs, SqL.of hxs⟩, fun D nD => ?_⟩
    have nDH : H D = none := sm1.free nD
    refine lc_list (K := K) (a := p) (xs := xs) (fun i H3 => Same H1 H3 ∧ ∃ acc, H3 D = some (.lst acc) ∧ Prs H3 acc (((allRel l.length).take i).filter (holdsF l))) ⟨same_upd nD, [], upd_same, .nil⟩ (fun i H3 _ h3 => SqL.of (h3.1 _ _ hxs)) (fun i x H3 hx h3 => ?_) (fun H3 h3 => ?_)
    · obtain ⟨sm3, acc, hD3, hA3⟩ := h3
      obtain ⟨r, hr', t, rfl, ht⟩ := Prs.get' hps hx
      obtain ⟨v1, v2, v3, v4⟩ := (valid_all hn).2 r (List.mem_of_getElem? hr')
      refine ⟨rfl, .str (mkS l), rfl, .ref t, rfl, l, t, r, rfl, sm3 _ _ ht, by omega, by omega, by omega, fun H4 sm4 => ?_⟩
      have hD4 := sm4 _ _ hD3
      have hA4 := Prs.same sm4 hA3
      refine ⟨_, rfl, ?_⟩
      rw [take_succ_get hr', List.filter_append]
      cases hh : holdsF l r with
      | true =>
        have hlen : acc.length ≤ 15 := by
          have e1 := List.length_filter_le (holdsF l) ((allRel l.length).take i)
          have e2 : ((allRel l.length).take i).length ≤ (allRel l.length).length := by rw [List.length_take]; omega
          have e3 := (f_len _ hn).2
          rw [hA3.length]
          omega
        refine iteT ⟨.ref t, rfl, acc, hD4, small64' (by omega), upd_keep (sm3.trans sm4) nD, acc ++ [.ref t], upd_same, ?_⟩
        have hN : Prs H4 [.ref t] [r] := .cons ⟨t, rfl, sm4 _ _ (sm3 _ _ ht)⟩ .nil
        rw [List.filter_cons_of_pos hh]
        exact Prs.updL hD4 (Prs.append hA4 hN)
      | false =>
        refine iteF ⟨sm3.trans sm4, acc, hD4, ?_⟩
        rw [List.filter_cons_of_neg (by rw [hh]; decide)]
        simpa using hA4
    · obtain ⟨sm3, acc, hD3, hA3⟩ := h3
      rw [hps.length, List.take_length] at hA3
      exact q H3 D (sm1.trans sm3) nDH ⟨acc, hD3, hA3⟩
end
end K03

set_option Elab.async false
set_option linter.all false
set_option maxRecDepth 100000
set_option maxHeartbeats 1200000
namespace K03
open L2 PySem PySem.Spec PyProof.Rows
/-- all but the table at T is kept -/
def SameT (T : Addr) (H H' : Hp) : Prop := ∀ b o, b ≠ T → H b = some o → H' b = some o
theorem SameT.of {T : Addr} {H H' : Hp} (sm : Same H H') : SameT T H H' := fun b o _ e => sm b o e
theorem SameT.trans {T : Addr} {H H1 H2 : Hp} (a : SameT T H H1) (b : SameT T H1 H2) : SameT T H H2 := fun c o h e => b c o h (a c o h e)
theorem SameT.tabbed {T : Addr} {H H' : Hp} (t : GxR.Tabbed T H H') : SameT T H H' := fun b o h e => (t.2 b h).trans e
theorem TabG.same {T : Addr} {H H' : Hp} (sm : Same H H') (h : GxR.TabG H T) : GxR.TabG H' T := let ⟨ps, e, t⟩ := h; ⟨ps, sm _ _ e, t⟩
theorem TabG.ne {T : Addr} {H : Hp} (h : GxR.TabG H T) {b : Addr} {o : HO} (e : H b = some o) (n : ∀ ps, o ≠ .tbl ps) : b ≠ T := fun z => by
  obtain ⟨ps, e2, _⟩ := h
  rw [z, e2] at e
  exact n ps (Option.some.inj e).symm
theorem Prs.sameT {T : Addr} {H H' : Hp} (hT : GxR.TabG H T) (sm : SameT T H H') {xs : List V} {rs : List (Int × Int)} (h : Prs H xs rs) : Prs H' xs rs := Paired.mapP h fun x r ⟨t, z1, z2⟩ => ⟨t, z1, sm _ _ (TabG.ne hT z2 fun _ q => by cases q) z2⟩
theorem Prs.take {H : Hp} : ∀ (i : Nat) {xs : List V} {rs : List (Int × Int)}, Prs H xs rs → Prs H (xs.take i) (rs.take i)
  | 0, _, _, _ => .nil
  | _ + 1, _, _, .nil => .nil
  | i + 1, _, _, .cons h t => .cons h (Prs.take i t)
theorem u65 {k : Nat} {A : Around} (hr : Room k A) : A.units + 65 < cLine := by
  have := hr.un
  omega
/-- the rule for a def whose code object is known -/
theorem okC {P : Program} {w : World} {K : PySem.W.Frag} {mg : Str → Option Value} {base : Heap} {x qual : Str} {st : Stmt} {f : Addr} {fd : FuncData} {N ps : List Str} {k : Nat} {sp : Sp} {c : Addr} (F : Fun K x qual st f fd) (hc : fd.code = .ref c) (S : FnScope N ps (defScope st)) (len : ∀ vs H Q E, sp vs H Q E → vs.length = ps.length)
    (hbody : ∀ (A : Around) (outer : List Env) (s : Shared) (H : Hp) (vs : List V) (Q : VK) (E : XK), Room k (A.deeper (envOfC qual (defScope st) s.heap.objs.size f (.ref c))) → sp vs H Q E →
      ∃ t, PSs (cxOf CX0 P w K mg base N qual (defScope st) f (.ref c) A outer s H E).nox (defBody st) t ∧ t { nx := fun _ H' => Q .non H', rt := Q } (start N vs) H) : FnOk P w K mg base CX0 (k + 1) f fd ps sp := by
  obtain ⟨_, _, _, _, _, _, _, _, _, rfl, found, code⟩ := F.ex
  cases hc
  exact fn_of found code S len fun A outer s H vs Q E room given => let ⟨t, runs, q⟩ := hbody A outer s H vs Q E room given; ⟨t, runs.nox, q⟩
theorem genS_of {env : Env} {scope : Scope} {x : Str} (h1 : scope.kind = .function) (h2 : scope.isCoroutine = false) (h3 : ∀ y ∈ scope.names, y.2 ≠ .cell) (h4 : scope.names.lookup (".0" : Str) = some NameKind.local)
    (h5 : scope.names.lookup x = some .local) (h6 : ∀ y ∈ scope.names, y.2 ≠ .free) : GxR.GenS env scope x := ⟨h1, h2, h3, h4, h5, fun y hy e => absurd e (h6 y hy)⟩
def IsMem (l : List Nat) : Prop := 1 ≤ l.length ∧ l.length ≤ 5 ∧ ∀ c ∈ l, c = 48 ∨ c = 49
section
variable {P : Program} {w : World} {K : PySem.W.Frag} {base : Heap} {mg : Str → Option Value}
/-! ### is_memory -/
def spIsMem (T : Addr) : Sp := fun vs H Q _ => ∃ l : List Nat, vs = [.str (mkS l)] ∧ IsMem l ∧ GxR.TabG H T ∧ ∀ H', GxR.Tabbed T H H' → Q (.bl true) H'
theorem ok_isMem {f c T : Addr} {fd : FuncData} (F : Fun K "is_memory" "is_memory" sIsMem f fd) (hc : fd.code = .ref c) (TB : GxR.TabB base mg c T) (mi : mg "isinstance" = none) (ms : mg "str" = none) (ml : mg "len" = none) (ma : mg "all" = none)
    {t9 : Tok} (m9 : mg "MOST_SPAN" = some (.int 9 t9)) : FnOk P w K mg base CX0 1 f fd ["value"] (spIsMem T) := by
  refine okC F hc scIsMem (fun vs H Q E h => ?_) (fun A outer s H vs Q E hr h => ?_)
  · obtain ⟨l, rfl, _⟩ := h
    rfl
  · obtain ⟨l, rfl, ⟨h1, h5, hm⟩, hT, q⟩ := h
    refine ⟨_, pss_cons (ps_if (PW.pt (pw_or (pt_not (pt_val (pe_callB call_isi (by rfl) mi PyProof.Rows.boot_isinstance (pa_cons (pv 0) (pa_cons (pe_bltn (v := .ty "str") (by rfl) ms boot_str rfl) pa_nil)))))
        (pw_or1 (pt_not (pt_chain op_le op_le pe_int (pe_callB call_len_str (by rfl) ml PySem.boot_len (pa_cons (pv 0) pa_nil)) (pe_glob (v := .int 9) (by rfl) m9 ⟨_, rfl⟩))))))
        (pss_one (ps_ret pe_bl)) pss_nil)
      (pss_one (ps_ret (GxR.pe_allS (pb := fun d => decide (d ∈ (Str.ofString "01").cps.toList)) hr (by rfl) ma (by decide +kernel) TB rfl (genS_of rfl rfl (by decide +kernel) rfl rfl (by decide +kernel)) (pv 0) (elt_in rfl rfl) (fun _ => by rfl)))), ?_⟩
    refine ⟨.str (mkS l), rfl, .str (mkS l), .ty "str", .type "str", .type "str", true, rfl, .ty "str", .base (.str _), kit_ty (by decide +kernel), true, rfl, iteF ?_⟩
    refine ⟨.str (mkS l), rfl, mkS l, rfl, by rw [mkS_len]; exact small64le (by omega), 1, _, rfl, rfl, true, ?_, iteT ?_⟩
    · rw [mkS_len]
      show V.bl (decide ((1 : Int) ≤ (l.length : Int))) = V.bl true
      rw [decide_eq_true (show (1 : Int) ≤ (l.length : Int) by omega)]
    refine ⟨_, 9, rfl, rfl, true, ?_, iteF ?_⟩
    · rw [mkS_len]
      show V.bl (decide ((l.length : Int) ≤ 9)) = V.bl true
      rw [decide_eq_true (show (l.length : Int) ≤ 9 by omega)]
    refine ⟨.str (mkS l), rfl, mkS l, rfl, hT, fun H2 tb => ?_⟩
    rw [show ((mkS l).cps.toList.all fun d => decide (d ∈ (Str.ofString "01").cps.toList)) = true from ?_]
    · exact q H2 tb
    · rw [s01]
      simp only [mkS, List.all_eq_true, decide_eq_true_eq]
      intro x hx
      rcases hm x hx with e | e <;> simp [e]
/-! ### need_memory -/
def spNeedMem (T : Addr) : Sp := fun vs H Q _ => ∃ l : List Nat, vs = [.str (mkS l)] ∧ IsMem l ∧ GxR.TabG H T ∧ ∀ H', GxR.Tabbed T H H' → Q .non H'
theorem ok_needMem {f fI T : Addr} {fd fdI : FuncData} (F : Fun K "need_memory" "need_memory" sNeedMem f fd) (FI : Fun K "is_memory" "is_memory" sIsMem fI fdI) (bI : Binds K fdI ["value"] []) (gI : mg "is_memory" = some (.ref fI))
    (GI : FnOk P w K mg base CX0 1 fI fdI ["value"] (spIsMem T)) : FnOk P w K mg base CX0 2 f fd ["memory"] (spNeedMem T) := by
  refine F.ok scNeedMem (fun vs H Q E h => ?_) (fun cdv A outer s H vs Q E hr h => ?_)
  · obtain ⟨l, rfl, _⟩ := h
    rfl
  · obtain ⟨l, rfl, hm, hT, q⟩ := h
    refine ⟨_, pss_one (ps_if (pt_not (pt_val (pe_call GI hr (by rfl) gI FI.kp bI .nil pass0 (pa_cons (pv 0) pa_nil)))) (pss_one ps_never) pss_nil), ?_⟩
    exact ⟨.str (mkS l), rfl, l, rfl, hm, hT, fun H' tb => ⟨true, rfl, iteF (q H' tb)⟩⟩
/-! ### relays_on -/
def spRelOn (T : Addr) : Sp := fun vs H Q _ => ∃ l : List Nat, vs = [.str (mkS l)] ∧ IsMem l ∧ GxR.TabG H T ∧ ∀ H' p, SameT T H H' → GxR.TabG H' T → TupR H' p (onF l) → Q (.ref p) H'
theorem ok_relOn {f fN fO T : Addr} {fd fdN fdO : FuncData} (F : Fun K "relays_on" "relays_on" sRelOn f fd) (FN : Fun K "need_memory" "need_memory" sNeedMem fN fdN) (bN : Binds K fdN ["memory"] []) (gN : mg "need_memory" = some (.ref fN))
    (FO : Fun K "on_in" "on_in" sOnIn fO fdO) (bO : Binds K fdO ["memory"] []) (gO : mg "on_in" = some (.ref fO)) (GN : FnOk P w K mg base CX0 2 fN fdN ["memory"] (spNeedMem T)) (GO : FnOk P w K mg base CX0 3 fO fdO ["memory"] spOnIn) (mt : mg "tuple" = none) :
    FnOk P w K mg base CX0 4 f fd ["memory"] (spRelOn T) := by
  refine F.ok scRelOn (fun vs H Q E h => ?_) (fun cdv A outer s H vs Q E hr h => ?_)
  · obtain ⟨l, rfl, _⟩ := h
    rfl
  · obtain ⟨l, rfl, hm, hT, q⟩ := h
    refine ⟨_, pss_cons (ps_expr (pe_call GN (hr.mono (by decide)) (by rfl) gN FN.kp bN .nil pass0 (pa_cons (pv 0) pa_nil)))
      (pss_one (ps_ret (pe_callTy call_tuple_of (by rfl) mt boot_tuple (pa_cons (pe_call GO hr (by rfl) gO FO.kp bO .nil pass0 (pa_cons (pv 0) pa_nil)) pa_nil)))), ?_⟩
    refine ⟨.str (mkS l), rfl, l, rfl, hm, hT, fun H1 tb => ?_⟩
    refine ⟨.str (mkS l), rfl, l, rfl, hm.1, hm.2.1, fun H2 p sm2 np hp => ?_⟩
    obtain ⟨xs, hxs, hps⟩ := hp
    refine ⟨p, xs, rfl, .inl ⟨SqL.of hxs, fun t nt => ?_⟩⟩
    exact q _ t ((SameT.tabbed tb).trans (SameT.of (sm2.trans (same_upd nt)))) (TabG.same (sm2.trans (same_upd nt)) tb.1) ⟨xs, upd_same, Prs.same (same_upd nt) hps⟩
/-! ### data of pairs -/
def prP (r : Int × Int) : PyData := .tuple [.int r.1, .int r.2]
theorem prP_lay (r : Int × Int) : (prP r).canLay0 = true := by simp [prP, PyData.canLay0, PyData.canLayAll0]
theorem prP_depth (r : Int × Int) : (prP r).depth = 1 := by simp [prP, PyData.depth, PyData.depthAll]
theorem prPs_lay (rs : List (Int × Int)) : PyData.canLayAll0 (rs.map prP) = true := by
  induction rs with
  | nil => rfl
  | cons r rs ih => simp [PyData.canLayAll0, prP_lay r, ih]
theorem prPs_depth (rs : List (Int × Int)) : PyData.depthAll (rs.map prP) ≤ 1 := by
  induction rs with
  | nil => exact Nat.zero_le 1
  | cons r rs ih =>
    have one := prP_depth r
    simp only [PyData.depthAll, List.map_cons]
    omega
theorem prP_shaped (r : Int × Int) : SeqAt.shaped (prP r) = true := by
  have h := prP_depth r
  show ((prP r).canLay0 && decide ((prP r).depth ≤ 64)) = true
  rw [Bool.and_eq_true]
  exact ⟨prP_lay r, decide_eq_true (by omega)⟩
theorem prL_shaped (rs : List (Int × Int)) : SeqAt.shaped (.list (rs.map prP)) = true := by
  have h1 := prPs_depth rs
  have h2 : PyData.depth (.list (rs.map prP)) ≤ 64 := by
    simp only [PyData.depth]
    omega
  show (PyData.canLay0 (.list (rs.map prP)) && decide (PyData.depth (.list (rs.map prP)) ≤ 64)) = true
  rw [Bool.and_eq_true]
  exact ⟨by simp only [PyData.canLay0]; exact prPs_lay rs, decide_eq_true h2⟩
theorem prT_shaped (rs : List (Int × Int)) : SeqAt.shaped (.tuple (rs.map prP)) = true := by
  have h1 := prPs_depth rs
  have h2 : PyData.depth (.tuple (rs.map prP)) ≤ 64 := by
    simp only [PyData.depth]
    omega
  show (PyData.canLay0 (.tuple (rs.map prP)) && decide (PyData.depth (.tuple (rs.map prP)) ≤ 64)) = true
  rw [Bool.and_eq_true]
  exact ⟨by simp only [PyData.canLay0]; exact prPs_lay rs, decide_eq_true h2⟩
theorem prP_eqv (a b : Int × Int) : PyData.eqv (prP a) (prP b) = decide (a = b) := by
  obtain ⟨x, y⟩ := a
  obtain ⟨z, u⟩ := b
  have e : PyData.eqv (prP (x, y)) (prP (z, u)) = ((x == z) && ((y == u) && true)) := by simp only [prP, PyData.eqv, PyData.eqvAll]
  rw [e]
  by_cases h1 : x = z
  · by_cases h2 : y = u
    · subst h1 h2
      simp
    · simp [h1, h2]
  · simp [h1]
theorem prPs_eqv : ∀ as bs : List (Int × Int), PyData.eqvAll (as.map prP) (bs.map prP) = decide (as = bs)
  | [], [] => rfl
  | [], b :: bs => by simp [PyData.eqvAll]
  | a :: as, [] => by simp [PyData.eqvAll]
  | a :: as, b :: bs => by
    have ih := prPs_eqv as bs
    have h := prP_eqv a b
    simp only [List.map_cons, PyData.eqvAll, h, ih]
    by_cases h1 : a = b
    · by_cases h2 : as = bs
      · subst h1 h2
        simp
      · simp [h1, h2]
    · simp [h1]
theorem prL_eqv (as bs : List (Int × Int)) : PyData.eqv (.list (as.map prP)) (.list (bs.map prP)) = decide (as = bs) := by
  have e : PyData.eqv (.list (as.map prP)) (.list (bs.map prP)) = PyData.eqvAll (as.map prP) (bs.map prP) := by simp only [PyData.eqv]
  rw [e, prPs_eqv]
theorem dp_pr {K : PySem.W.Frag} {H : Hp} {x : V} {r : Int × Int} (h : PR H x r) : Dp K H x (prP r) := by
  obtain ⟨t, rfl, e⟩ := h
  exact .tup (SqT.of e) (.cons (.int _) (.cons (.int _) .nil))
theorem dp_prs {K : PySem.W.Frag} {H : Hp} : ∀ {xs : List V} {rs : List (Int × Int)}, Prs H xs rs → DpAll K H xs (rs.map prP)
  | _, _, .nil => .nil
  | _, _, .cons h t => .cons (dp_pr h) (dp_prs t)
theorem any_eqv (r : Int × Int) : ∀ rs : List (Int × Int), ((rs.map prP).any fun z => PyData.eqv z (prP r)) = decide (r ∈ rs)
  | [] => by simp
  | a :: rs => by
    have ih := any_eqv r rs
    rw [List.map_cons, List.any_cons, ih, prP_eqv]
    by_cases h : a = r
    · subst h
      simp
    · have h' : ¬ r = a := fun e => h e.symm
      simp [h, h']
/-! ### need_relays -/
def spNeedRel : Sp := fun vs H Q _ => ∃ (n : Nat) (t : Addr) (rs : List (Int × Int)), vs = [.int n, .ref t] ∧ TupR H t rs ∧ Valid n rs ∧ ∀ H', Same H H' → Q .non H'
theorem cut_take (xs : List V) (i : Nat) (hi : i ≤ xs.length) : cutV xs none (some (i : Int)) = xs.take i := by
  unfold cutV
  rw [show HT.sIx xs.length xs.length (some (i : Int)) = min i xs.length from HT.sIx_nat xs.length xs.length i, HT.sIx_none]
  simp [Nat.min_eq_left hi]
theorem ok_needRel {f fI : Addr} {fd fdI : FuncData} (F : Fun K "need_relays" "need_relays" sNeedRel f fd) (FI : Fun K "is_relay" "is_relay" sIsRel fI fdI) (bI : Binds K fdI ["span", "value"] []) (gI : mg "is_relay" = some (.ref fI))
    (GI : FnOk P w K mg base CX0 2 fI fdI ["span", "value"] spIsRel) (mi : mg "isinstance" = none) (mt : mg "tuple" = none) (me : mg "enumerate" = none) : FnOk P w K mg base CX0 3 f fd ["span", "relays"] spNeedRel := by
  refine F.ok scNeedRel (fun vs H Q E h => ?_) (fun cdv A outer s H vs Q E hr h => ?_)
  · obtain ⟨n, t, rs, rfl, _⟩ := h
    rfl
  · obtain ⟨n, t, rs, rfl, ⟨xs, hxs, hps⟩, ⟨vd, vr⟩, q⟩ := h
    refine ⟨_, pss_cons (ps_if (pt_not (pt_val (pe_callB call_isi (by rfl) mi PyProof.Rows.boot_isinstance (pa_cons (pv 1) (pa_cons (pe_bltn (v := .ty "tuple") (by rfl) mt boot_tuple rfl) pa_nil))))) (pss_one ps_never) pss_nil)
      (pss_one (ps_for PassesOwn.never rfl (pi_E (by rfl) me (pa_cons (pv 1) pa_nil)) (pg_tup rfl (pgs_cons (pg_name (i := 2) scNeedRel.nd rfl (Or.inl rfl)) (pgs_cons (pg_name (i := 3) scNeedRel.nd rfl (Or.inl rfl)) pgs_nil)))
        (pss_one (ps_if (PW.pt (pw_or (pt_not (pt_val (pe_call GI hr (by rfl) gI FI.kp bI .nil pass0 (pa_cons (pv 0) (pa_cons (pv 3) pa_nil))))) (pw_or1 (pt_cmpR (op_inTD (u65 hr)) (pv 3) (pe_slice sl_tup (pv 1) po_none (po_some (pv 2))) (by rfl))))) (pss_one ps_never) pss_nil)))), ?_⟩
    refine ⟨.ref t, rfl, .ref t, .ty "tuple", .type "tuple", .type "tuple", true, rfl, .ty "tuple", .base (.tup hxs), kit_ty (by decide +kernel), true, rfl, iteF ?_⟩
    refine ⟨.ref t, rfl, _, _, _, _, rfl, enu_tup t xs, SqT.of hxs, ?_⟩
    refine for_it walk_E (fun i σ H3 => ∃ y2 y3, σ = [some (.int n), some (.ref t), y2, y3] ∧ Same H H3) ⟨none, none, rfl, Same.refl H⟩ (fun i σ H3 _ hP => ?_) (fun i v σ H3 H' hi hP y => ?_) (fun σ H3 hP => ?_)
    · obtain ⟨y2, y3, rfl, sm⟩ := hP
      exact SqT.of (sm _ _ hxs)
    · obtain ⟨y2, y3, rfl, sm⟩ := hP
      have hx : xs[i]? = some (xs.getD i .non) := by rw [List.getD_eq_getElem?_getD, List.getElem?_eq_getElem hi]; rfl
      obtain ⟨T, rfl, nT, rfl⟩ : ∃ T, v = .ref T ∧ H3 T = none ∧ H' = upd H3 T (.tup [.int (i : Nat), xs.getD i .non]) := y
      obtain ⟨r, hr', t', et, ht'⟩ := Prs.get' hps hx
      rw [et]
      obtain ⟨v1, v2, v3, v4⟩ := vr r (List.mem_of_getElem? hr')
      have smT : Same H (upd H3 T (.tup [.int (i : Nat), .ref t'])) := sm.trans (same_upd nT)
      refine ⟨T, _, rfl, .inl (.inl upd_same), rfl, _, _, rfl, _, _, rfl, rfl, ?_⟩
      refine ⟨.int n, rfl, .ref t', rfl, n, t', r.1, r.2, rfl, smT _ _ ht', by omega, by omega, by omega, by omega, true, rfl, iteF ?_⟩
      refine ⟨.ref t', rfl, .ref t, rfl, .int (i : Nat), rfl, i, rfl, t, xs, rfl, SqT.of (smT _ _ hxs), ?_, fun p np => ?_⟩
      · rintro ⟨_, e⟩
        rw [show HT.sIx xs.length xs.length (some (i : Int)) = min i xs.length from HT.sIx_nat xs.length xs.length i] at e
        omega
      · rw [cut_take xs i (by omega)]
        have sm5 : Same H (upd (upd H3 T (.tup [.int (i : Nat), .ref t'])) p (.tup (xs.take i))) := smT.trans (same_upd np)
        have hp5 := Prs.same sm5 hps
        have htk : Prs (upd (upd H3 T (.tup [.int (i : Nat), .ref t'])) p (.tup (xs.take i))) (xs.take i) (rs.take i) := Prs.take i hp5
        refine ⟨prP r, (rs.take i).map prP, dp_pr ⟨t', rfl, sm5 _ _ ht'⟩, .tup (SqT.of upd_same) (dp_prs htk), prP_shaped r, prT_shaped _, _, rfl, ?_⟩
        rw [any_eqv, decide_eq_false ?_]
        · exact iteF ⟨_, _, rfl, sm5⟩
        · intro hm
          obtain ⟨j, hj, ej⟩ := List.mem_iff_getElem.mp hm
          rw [List.length_take] at hj
          rw [List.getElem_take] at ej
          have hi2 : i < rs.length := by rw [← hps.length]; exact hi
          have e3 : rs[i] = r := by
            rw [List.getElem?_eq_getElem hi2] at hr'
            exact Option.some.inj hr'
          have := (List.getElem_inj vd).mp (ej.trans e3.symm)
          omega
    · obtain ⟨y2, y3, rfl, sm⟩ := hP
      exact q H3 sm
/-! ### memory_of -/
def optV : Option (List Nat) → V
  | none => .non
  | some m => strV m
def spMemOf : Sp := fun vs H Q _ => ∃ (n : Nat) (t : Addr) (rs : List (Int × Int)), vs = [.int n, .ref t] ∧ TupR H t rs ∧ Valid n rs ∧ n ∈ spans ∧ rs.length ≤ 32 ∧ ∀ H', Same H H' → Q (optV (foundF n rs)) H'
/-- the pair at an address -/
def kH (H : Hp) : V → Int × Int
  | .ref t => (match H t with
    | some (.tup [.int i, .int j]) => (i, j)
    | _ => (0, 0))
  | _ => (0, 0)
theorem kH_of {H : Hp} {x : V} {r : Int × Int} (h : PR H x r) : kH H x = r := by
  obtain ⟨t, rfl, e⟩ := h
  simp only [kH, e]
theorem kH_all {H : Hp} : ∀ {xs : List V} {rs : List (Int × Int)}, Prs H xs rs → xs.map (kH H) = rs ∧ ∀ x ∈ xs, ∃ t, x = V.ref t ∧ H t = some (.tup [.int (kH H x).1, .int (kH H x).2])
  | _, _, .nil => ⟨rfl, fun x h => by simp at h⟩
  | _, _, .cons (a := y) (b := r) h t => by
    obtain ⟨e1, e2⟩ := kH_all t
    have e3 := kH_of h
    refine ⟨by rw [List.map_cons, e1, e3], fun x hx => ?_⟩
    rcases List.mem_cons.mp hx with e | rest
    · subst e
      rw [e3]
      obtain ⟨t, z1, z2⟩ := h
      exact ⟨t, z1, z2⟩
    · exact e2 x rest
theorem prs_of {H : Hp} : ∀ {ys : List V}, (∀ x ∈ ys, ∃ t, x = V.ref t ∧ H t = some (.tup [.int (kH H x).1, .int (kH H x).2])) → Prs H ys (ys.map (kH H))
  | [], _ => .nil
  | y :: ys, h => .cons (let ⟨t, e1, e2⟩ := h y List.mem_cons_self; ⟨t, e1, e2⟩) (prs_of fun x hx => h x (List.mem_cons_of_mem _ hx))
/-- what sorted hands back: the pairs in their order -/
theorem sorted_prs {H : Hp} {xs ys : List V} {rs : List (Int × Int)} (hp : Prs H xs rs) (hs : SrtO.Srtd (ltP (kH H)) ys) (hb : SrtO.Stb (ltP (kH H)) ys xs) :
    ∃ ss, Prs H ys ss ∧ ss.Pairwise Lex ∧ ss.Perm rs := by
  obtain ⟨e1, e2⟩ := kH_all hp
  have pm : ys.Perm xs := hb.perm
  refine ⟨ys.map (kH H), prs_of fun x hx => e2 x (pm.mem_iff.mp hx), ?_, ?_⟩
  · refine List.pairwise_map.mpr (List.Pairwise.imp ?_ hs)
    intro a b hab
    exact SrtO.lexB_no.mp hab
  · rw [← e1]
    exact pm.map _
theorem ok_memOf {f fS fR fA fO : Addr} {fd fdS fdR fdA fdO : FuncData} (F : Fun K "memory_of" "memory_of" sMemOf f fd)
    (FS : Fun K "need_span" "need_span" sNeedSpan fS fdS) (bS : Binds K fdS ["span"] []) (gS : mg "need_span" = some (.ref fS)) (GS : FnOk P w K mg base CX0 2 fS fdS ["span"] spNeedSpan)
    (FR : Fun K "need_relays" "need_relays" sNeedRel fR fdR) (bR : Binds K fdR ["span", "relays"] []) (gR : mg "need_relays" = some (.ref fR)) (GR : FnOk P w K mg base CX0 3 fR fdR ["span", "relays"] spNeedRel)
    (FA : Fun K "all_memories" "all_memories" sAllMem fA fdA) (bA : Binds K fdA ["span"] []) (gA : mg "all_memories" = some (.ref fA)) (GA : FnOk P w K mg base CX0 1 fA fdA ["span"] spAllMem)
    (FO : Fun K "on_in" "on_in" sOnIn fO fdO) (bO : Binds K fdO ["memory"] []) (gO : mg "on_in" = some (.ref fO)) (GO : FnOk P w K mg base CX0 3 fO fdO ["memory"] spOnIn) (ms : mg "sorted" = none) :
    FnOk P w K mg base CX0 4 f fd ["span", "relays"] spMemOf := by
  refine F.ok scMemOf (fun vs H Q E h => ?_) (fun cdv A outer s H vs Q E hr h => ?_)
  · obtain ⟨n, t, rs, rfl, _⟩ := h
    rfl
  · obtain ⟨n, t, rs, rfl, ⟨xs, hxs, hps⟩, hv, hn, hl, q⟩ := h
    have hn1 : 1 ≤ n ∧ n ≤ 5 := by
      simp only [spans, List.mem_cons, List.not_mem_nil, or_false] at hn
      omega
    refine ⟨_, pss_cons (ps_expr (pe_call GS (hr.mono (by decide)) (by rfl) gS FS.kp bS .nil pass0 (pa_cons (pv 0) pa_nil)))
      (pss_cons (ps_expr (pe_call GR hr (by rfl) gR FR.kp bR .nil pass0 (pa_cons (pv 0) (pa_cons (pv 1) pa_nil))))
      (pss_cons (ps_for PassesOwn.never rfl (pi_list (pe_call GA (hr.mono (by decide)) (by rfl) gA FA.kp bA .nil pass0 (pa_cons (pv 0) pa_nil))) (pg_name (i := 2) scMemOf.nd rfl (.inl rfl))
        (pss_one (ps_if (pt_cmpR (op_eqD hr.units) (pe_call GO hr (by rfl) gO FO.kp bO .nil pass0 (pa_cons (pv 2) pa_nil)) (pe_callB cr_sortedPT (by rfl) ms boot_sorted (pa_cons (pv 1) pa_nil)) (nomark _)) (pss_one (ps_ret (pv 2))) pss_nil)))
      (pss_one (ps_ret pe_non)))), ?_⟩
    refine ⟨.int n, rfl, n, rfl, by omega, by omega, ?_⟩
    refine ⟨.int n, rfl, .ref t, rfl, n, t, rs, rfl, ⟨xs, hxs, hps⟩, hv, fun H1 sm1 => ?_⟩
    refine ⟨.int n, rfl, n, rfl, hn1.2, fun H2 p sm2 np hp => ⟨p, rfl, ⟨_, SqL.of hp⟩, ?_⟩⟩
    have sm12 := sm1.trans sm2
    refine for_list (K := K) (a := p) (xs := (allMem n).map strV) (fun i σ H3 => ∃ y2, σ = [some (.int n), some (.ref t), y2] ∧ Same H2 H3 ∧ ∀ m ∈ (allMem n).take i, ¬ (onF m).Perm rs) ⟨none, rfl, Same.refl _, fun m hm => by simp at hm⟩ (fun i σ H3 _ hP => ?_) (fun i x σ H3 hx hP => ?_) (fun σ H3 hP => ?_)
    · obtain ⟨y2, _, sm, _⟩ := hP
      exact SqL.of (sm _ _ hp)
    · obtain ⟨y2, rfl, sm, hno⟩ := hP
      rw [List.getElem?_map] at hx
      cases hm : (allMem n)[i]? with
      | none => rw [hm] at hx; cases hx
      | some m =>
        rw [hm] at hx
        cases hx
        have hmm : m ∈ allMem n := List.mem_of_getElem? hm
        have hml := (mem_allMem.mp hmm).1
        refine ⟨.str (mkS m), rfl, m, rfl, by omega, by omega, fun H4 o sm4 no ho => ?_⟩
        obtain ⟨os, hos, hop⟩ := ho
        have sm04 := (sm12.trans sm).trans sm4
        have hps4 := Prs.same sm04 hps
        obtain ⟨_, k2⟩ := kH_all hps4
        refine ⟨.ref t, rfl, t, xs, kH H4, rfl, SqT.of (sm04 _ _ hxs), k2, fun ys u hsd hsb nu => ?_⟩
        obtain ⟨ss, hss, hsrt, hperm⟩ := sorted_prs hps4 hsd hsb
        have smu := same_upd (o := .lst ys) nu
        refine ⟨.list ((onF m).map prP), .list (ss.map prP), .lst (SqL.of (smu _ _ hos)) (dp_prs (Prs.same smu hop)), .lst (SqL.of upd_same) (dp_prs (Prs.same smu hss)), prL_shaped _, prL_shaped _, _, rfl, ?_⟩
        rw [prL_eqv]
        refine ite2 (fun e => ?_) (fun e => ?_)
        · have e2 := (perm_sorted hn hmm hsrt hperm).mp (of_decide_eq_true e)
          refine ⟨.str (mkS m), rfl, ?_⟩
          have z := q _ (sm04.trans smu)
          have hf : foundF n rs = some m := by
            unfold foundF
            refine List.find?_eq_some_iff_getElem.mpr ?_
            obtain ⟨hi, ei⟩ := List.getElem?_eq_some_iff.mp hm
            refine ⟨decide_eq_true e2, i, hi, ei, fun j hj => ?_⟩
            rw [Bool.not_eq_true', decide_eq_false_iff_not]
            refine hno _ (List.mem_take_iff_getElem.mpr ⟨j, by omega, rfl⟩)
          rw [hf] at z
          exact z
        · refine ⟨_, rfl, (sm.trans sm4).trans smu, fun m' hm' => ?_⟩
          rw [take_succ_get hm] at hm'
          rcases List.mem_append.mp hm' with h | h
          · exact hno m' h
          · rw [List.mem_singleton.mp h]
            exact fun pm => e (decide_eq_true ((perm_sorted hn hmm hsrt hperm).mpr pm))
    · obtain ⟨y2, rfl, sm, hno⟩ := hP
      have z := q H3 (sm12.trans sm)
      have hf : foundF n rs = none := by
        unfold foundF
        rw [List.find?_eq_none]
        intro m hm
        have := hno m (by rw [List.length_map, List.take_length]; exact hm)
        simpa using this
      rw [hf] at z
      exact z
end
end K03

set_option Elab.async false
set_option linter.all false
set_option maxRecDepth 100000
set_option maxHeartbeats 1200000
namespace K03
open L2 PySem PySem.Spec PyProof.Rows
/-- the law's row: the script at a, a count, two numbers -/
def RowAt (H : Hp) (r a : Addr) : Prop := ∃ (i : Nat) (s c : Int), H r = some (.lst [.ref a, .int i, .int s, .int c]) ∧ 0 ≤ s ∧ s < 2147483647
/-- only r has changed -/
def But (r : Addr) (H H' : Hp) : Prop := ∀ b, b ≠ r → H' b = H b
theorem But.refl (r : Addr) (H : Hp) : But r H H := fun _ _ => rfl
theorem But.upd {r : Addr} {H H' : Hp} (h : But r H H') (o : HO) : But r H (upd H' r o) := fun b hb => by
  rw [upd_ne hb]
  exact h b hb
theorem seq_row {K : PySem.W.Frag} {H H' : Hp} {r a : Addr} {rest : List V} {ns : List Int} (h : H r = some (.lst (.ref a :: rest))) (hS : SqL K H a (ns.map V.int)) (hb : But r H H') : SqL K H' a (ns.map V.int) := by
  rcases hS with (e | ⟨o, e⟩) | e
  · refine .inl (.inl ?_)
    rw [hb a fun z => ?_]
    · exact e
    · rw [z] at e
      rw [h] at e
      cases ns with
      | nil => cases e
      | cons n ns => cases e
  · refine .inl (.inr ⟨o, ?_⟩)
    rw [hb a fun z => ?_]
    · exact e
    · rw [z] at e
      rw [h] at e
      cases e
  · exact .inr e
section
variable {P : Program} {w : World} {K : PySem.W.Frag} {base : Heap} {mg : Str → Option Value}
/-! ### _law_taken -/
def spTaken (K : PySem.W.Frag) : Sp := fun vs H Q _ => ∃ (r a : Addr) (m : Nat) (ns : List Int), vs = [.ref r, .int m] ∧ 1 ≤ m ∧ m ≤ 1000 ∧ RowAt H r a ∧ SqL K H a (ns.map V.int) ∧ ∀ (H' : Hp) (d : Nat), But r H H' → RowAt H' r a → d < m → Q (.int d) H'
theorem mod_nat {x : Int} {m : Nat} (h : 1 ≤ m) : ∃ d : Nat, d < m ∧ x % (m : Int) = (d : Int) := by
  have h1 := Int.emod_nonneg x (show (m : Int) ≠ 0 by omega)
  have h2 := Int.emod_lt_of_pos x (show (0 : Int) < (m : Int) by omega)
  exact ⟨(x % (m : Int)).toNat, by omega, by omega⟩
theorem ok_taken {f : Addr} {fd : FuncData} (F : Fun K "_law_taken" "_law_taken" sTaken f fd) (mi : mg "int" = none) (ml : mg "len" = none) : FnOk P w K mg base CX0 1 f fd ["_law_row", "_law_many"] (spTaken K) := by
  refine F.ok scTaken (fun vs H Q E h => ?_) (fun cdv A outer s H vs Q E hr h => ?_)
  · obtain ⟨r, a, m, ns, rfl, _⟩ := h
    rfl
  · obtain ⟨r, a, m, ns, rfl, h1, h2, ⟨i, x, c, hrow, x0, x1⟩, hS, q⟩ := h
    have nd := scTaken.nd
    refine ⟨_, pss_cons (ps_if (pt_cmpR op_gt (pe_ix ix_list (pv 0) pe_int (fun _ _ => rfl)) pe_int (nomark _))
        (pss_cons (ps_set (i := 2) nd rfl (.inl rfl) (pe_op op_mod (pe_callTy call_int1 (by rfl) mi boot_int (pa_cons (pe_ix ix_list (pv 0) pe_int (fun _ _ => rfl)) pa_nil)) (pv 1)))
        (pss_cons (ps_asg (pe_op op_fdiv (pe_ix ix_list (pv 0) pe_int (fun _ _ => rfl)) (pv 1)) (pg_sub (pv 0) pe_int set_list))
        (pss_one (ps_ret (pv 2))))) pss_nil)
      (pss_cons (ps_asg (pe_op op_add (pe_ix ix_list (pv 0) pe_int (fun _ _ => rfl)) pe_int) (pg_sub (pv 0) pe_int set_list))
      (pss_cons (ps_if (pt_cmpR op_gt (pe_ix ix_list (pv 0) pe_int (fun _ _ => rfl)) (pe_callB call_len_seq (by rfl) ml PySem.boot_len (pa_cons (pe_ix ix_list (pv 0) pe_int (fun _ _ => rfl)) pa_nil)) (nomark _))
        (pss_cons (ps_asg (pe_op op_mod (pe_callTy call_int1 (by rfl) mi boot_int (pa_cons (pe_op op_add (pe_op op_mul (pe_ix ix_list (pv 0) pe_int (fun _ _ => rfl)) pe_int) pe_int) pa_nil)) pe_int) (pg_sub (pv 0) pe_int set_list))
        (pss_one (ps_ret (pe_op op_mod (pe_callTy call_int1 (by rfl) mi boot_int (pa_cons (pe_op op_fdiv (pe_ix ix_list (pv 0) pe_int (fun _ _ => rfl)) pe_int) pa_nil)) (pv 1))))) pss_nil)
      (pss_cons (ps_set (i := 3) nd rfl (.inl rfl) (pe_ix ix_list (pe_ix ix_list (pv 0) pe_int (fun _ _ => rfl)) (pe_op op_sub (pe_ix ix_list (pv 0) pe_int (fun _ _ => rfl)) pe_int) (fun _ _ => rfl)))
      (pss_cons (ps_asg (pe_op op_mod (pe_callTy call_int1 (by rfl) mi boot_int (pa_cons (pe_op op_add (pe_op op_add (pe_op op_mul (pe_ix ix_list (pv 0) pe_int (fun _ _ => rfl)) pe_int) (pv 3)) pe_int) pa_nil)) pe_int) (pg_sub (pv 0) pe_int set_list))
      (pss_cons (ps_if (pt_cmpR op_ge (pv 3) (pe_op op_pow pe_int pe_int) (nomark _)) (pss_one (ps_asg (pe_op op_fdiv (pv 3) (pv 1)) (pg_sub (pv 0) pe_int set_list))) pss_nil)
      (pss_one (ps_ret (pe_op op_mod (pe_callTy call_int1 (by rfl) mi boot_int (pa_cons (pv 3) pa_nil)) (pv 1))))))))), ?_⟩
    have fin : ∀ (H' : Hp) (y : Int), But r H H' → RowAt H' r a → Q (.int (y % (m : Int))) H' := fun H' y b ra => by
      obtain ⟨d, hd, ed⟩ := mod_nat (x := y) h1
      rw [ed]
      exact q H' d b ra hd
    have hm0 : (0 : Int) < (m : Int) := by omega
    have hmS : (m : Int) < 1073741824 := by omega
    refine ⟨.ref r, rfl, r, _, 3, .int c, rfl, rfl, SqL.of hrow, atI_nat (j := 3) rfl, c, 0, rfl, rfl, _, rfl, ite2 (fun e => ?_) (fun e => ?_)⟩
    · -- the rest of a cell
      refine ⟨.ref r, rfl, r, _, 3, .int c, rfl, rfl, SqL.of hrow, atI_nat (j := 3) rfl, .inl ⟨c, rfl, .int m, rfl, c, m, rfl, rfl, hm0, ?_⟩⟩
      refine ⟨.ref r, rfl, r, _, 3, .int c, rfl, rfl, SqL.of hrow, atI_nat (j := 3) rfl, .int m, rfl, c, m, rfl, rfl, ⟨hm0, hmS⟩, .ref r, rfl, r, _, 3, 3, rfl, rfl, hrow, rfl, ?_⟩
      refine ⟨_, rfl, ?_⟩
      exact fin _ _ ((But.refl r H).upd _) ⟨i, x, c / m, upd_same, x0, x1⟩
    · refine ⟨.ref r, rfl, r, _, 1, .int i, rfl, rfl, SqL.of hrow, atI_nat (j := 1) rfl, i, 1, rfl, rfl, .ref r, rfl, r, _, 1, 1, rfl, rfl, hrow, rfl, ?_⟩
      have hrow2 : (L2.upd H r (.lst [.ref a, .int ((i : Int) + 1), .int x, .int c])) r = some (.lst [.ref a, .int ((i + 1 : Nat) : Int), .int x, .int c]) := by
        rw [upd_same]
        rfl
      have bt := (But.refl r H).upd (.lst [.ref a, .int ((i : Int) + 1), .int x, .int c])
      have hS2 := seq_row hrow hS bt
      generalize hH2 : L2.upd H r (.lst [.ref a, .int ((i : Int) + 1), .int x, .int c]) = H2 at hrow2 bt hS2
      show tSeq _ _ _ _ (L2.upd H r (.lst [.ref a, .int ((i : Int) + 1), .int x, .int c]))
      rw [hH2]
      refine ⟨.ref r, rfl, r, _, 1, .int ((i + 1 : Nat) : Int), rfl, rfl, SqL.of hrow2, atI_nat (j := 1) rfl, .ref r, rfl, r, _, 0, .ref a, rfl, rfl, SqL.of hrow2, atI_nat (j := 0) rfl, a, _, rfl, .inl hS2, _, _, rfl, rfl, _, rfl, ite2 (fun e2 => ?_) (fun e2 => ?_)⟩
      · -- behind the script
        refine ⟨.ref r, rfl, r, _, 2, .int x, rfl, rfl, SqL.of hrow2, atI_nat (j := 2) rfl, x, 48271, rfl, rfl, .inl ⟨by omega, by omega⟩, _, 11, rfl, rfl, .inl ⟨_, rfl, _, 2147483647, rfl, rfl, by show (0 : Int) < 2147483647; decide, .ref r, rfl, r, _, 2, 2, rfl, rfl, hrow2, rfl, ?_⟩⟩
        have hrow3 : (L2.upd H2 r (.lst [.ref a, .int ((i + 1 : Nat) : Int), .int ((x * 48271 + 11) % 2147483647), .int c])) r = some (.lst [.ref a, .int ((i + 1 : Nat) : Int), .int ((x * 48271 + 11) % 2147483647), .int c]) := upd_same
        have y0 := Int.emod_nonneg (x * 48271 + 11) (show (2147483647 : Int) ≠ 0 by decide)
        have y1 := Int.emod_lt_of_pos (x * 48271 + 11) (show (0 : Int) < 2147483647 by decide)
        refine ⟨.ref r, rfl, r, _, 2, .int ((x * 48271 + 11) % 2147483647), rfl, rfl, SqL.of hrow3, atI_nat (j := 2) rfl, _, 7, rfl, rfl, ⟨by decide, by decide⟩, .inl ⟨_, rfl, .int m, rfl, _, m, rfl, rfl, hm0, ?_⟩⟩
        exact fin _ _ (bt.upd _) ⟨i + 1, _, c, hrow3, y0, y1⟩
      · -- a cell
        have hlt : i < ns.length := by
          have : ¬ (((ns.map V.int).length : Int) < ((i + 1 : Nat) : Int)) := fun z => e2 (decide_eq_true z)
          rw [List.length_map] at this
          omega
        have hcell : (ns.map V.int)[i]? = some (.int ns[i]) := by
          rw [List.getElem?_map, List.getElem?_eq_getElem hlt]
          rfl
        refine ⟨.ref r, rfl, r, _, 0, .ref a, rfl, rfl, SqL.of hrow2, atI_nat (j := 0) rfl, .ref r, rfl, r, _, 1, .int ((i + 1 : Nat) : Int), rfl, rfl, SqL.of hrow2, atI_nat (j := 1) rfl, _, 1, rfl, rfl, a, _, _, .int ns[i], rfl, rfl, hS2, ?_, ?_⟩
        · rw [show (((i + 1 : Nat) : Int) - 1) = ((i : Nat) : Int) by omega]
          exact atI_nat hcell
        · refine ⟨.ref r, rfl, r, _, 2, .int x, rfl, rfl, SqL.of hrow2, atI_nat (j := 2) rfl, x, 48271, rfl, rfl, .inl ⟨by omega, by omega⟩, .int ns[i], rfl, _, _, rfl, rfl, _, 11, rfl, rfl, .inl ⟨_, rfl, _, 2147483647, rfl, rfl, by show (0 : Int) < 2147483647; decide, .ref r, rfl, r, _, 2, 2, rfl, rfl, hrow2, rfl, ?_⟩⟩
          have y0 := Int.emod_nonneg (x * 48271 + ns[i] + 11) (show (2147483647 : Int) ≠ 0 by decide)
          have y1 := Int.emod_lt_of_pos (x * 48271 + ns[i] + 11) (show (0 : Int) < 2147483647 by decide)
          have hrow3 : (L2.upd H2 r (.lst [.ref a, .int ((i + 1 : Nat) : Int), .int ((x * 48271 + ns[i] + 11) % 2147483647), .int c])) r = some (.lst [.ref a, .int ((i + 1 : Nat) : Int), .int ((x * 48271 + ns[i] + 11) % 2147483647), .int c]) := upd_same
          refine ⟨.int ns[i], rfl, 10, 18, rfl, rfl, ⟨by decide, by decide, by decide⟩, _, _, rfl, rfl, _, rfl, ite2 (fun e3 => ?_) (fun e3 => ?_)⟩
          · refine ⟨.int ns[i], rfl, .int m, rfl, _, m, rfl, rfl, ⟨hm0, hmS⟩, .ref r, rfl, r, _, 3, 3, rfl, rfl, hrow3, rfl, ?_⟩
            refine ⟨.int ns[i], rfl, .inl ⟨_, rfl, .int m, rfl, _, m, rfl, rfl, hm0, ?_⟩⟩
            exact fin _ _ ((bt.upd _).upd _) ⟨i + 1, _, _, upd_same, y0, y1⟩
          · refine ⟨.int ns[i], rfl, .inl ⟨_, rfl, .int m, rfl, _, m, rfl, rfl, hm0, ?_⟩⟩
            exact fin _ _ (bt.upd _) ⟨i + 1, _, c, hrow3, y0, y1⟩
end
end K03

set_option Elab.async false
set_option linter.all false
set_option maxRecDepth 100000
set_option maxHeartbeats 1200000
namespace K03
open L2 PySem PySem.Spec PyProof.Rows
section
variable {P : Program} {w : World} {K : PySem.W.Frag} {base : Heap} {mg : Str → Option Value}
/-! ### _law_pick -/
def spPick (K : PySem.W.Frag) : Sp := fun vs H Q _ => ∃ (r a : Addr) (l : List Nat) (ns : List Int), vs = [.ref r, .str (mkS l)] ∧ 1 ≤ l.length ∧ l.length ≤ 64 ∧ RowAt H r a ∧ SqL K H a (ns.map V.int) ∧ ∀ (H' : Hp) (c : Nat), But r H H' → RowAt H' r a → c ∈ l → Q (.str (mkS [c])) H'
theorem ok_pick {f fT : Addr} {fd fdT : FuncData} (F : Fun K "_law_pick" "_law_pick" sPick f fd) (FT : Fun K "_law_taken" "_law_taken" sTaken fT fdT) (bT : Binds K fdT ["_law_row", "_law_many"] []) (gT : mg "_law_taken" = some (.ref fT))
    (GT : FnOk P w K mg base CX0 1 fT fdT ["_law_row", "_law_many"] (spTaken K)) (ml : mg "len" = none) : FnOk P w K mg base CX0 2 f fd ["_law_row", "_law_things"] (spPick K) := by
  refine F.ok scPick (fun vs H Q E h => ?_) (fun cdv A outer s H vs Q E hr h => ?_)
  · obtain ⟨r, a, l, ns, rfl, _⟩ := h
    rfl
  · obtain ⟨r, a, l, ns, rfl, h1, h2, hrow, hS, q⟩ := h
    refine ⟨_, pss_one (ps_ret (pe_ix ix_str (pv 1) (pe_call GT hr (by rfl) gT FT.kp bT .nil pass0 (pa_cons (pv 0) (pa_cons (pe_callB call_len_str (by rfl) ml PySem.boot_len (pa_cons (pv 1) pa_nil)) pa_nil))) (fun _ _ => rfl))), ?_⟩
    refine ⟨.str (mkS l), rfl, .ref r, rfl, .str (mkS l), rfl, mkS l, rfl, by rw [mkS_len]; exact small64le h2, ?_⟩
    refine ⟨r, a, l.length, ns, by rw [mkS_len]; rfl, h1, by omega, hrow, hS, fun H' d b ra hd => ?_⟩
    refine ⟨mkS l, d, l[d], rfl, rfl, by rw [mkS_len]; exact small64le h2, ?_, q H' l[d] b ra (List.getElem_mem hd)⟩
    refine atI_nat ?_
    simp [mkS, hd]
/-! ### _law_alike -/
def spAlike : Sp := fun vs H Q _ => ∃ v : V, vs = [v, v] ∧ (v = .non ∨ ∃ z, v = .str z) ∧ ∀ H', Same H H' → Q (.bl true) H'
theorem ok_alike {f : Addr} {fd : FuncData} (F : Fun K "_law_alike" "_law_alike" sAlike f fd) (mi : mg "isinstance" = none) (mt : mg "tuple" = none) (ml : mg "list" = none) (ms : mg "str" = none) : FnOk P w K mg base CX0 1 f fd ["_law_found", "_law_due"] spAlike := by
  refine F.ok scAlike (fun vs H Q E h => ?_) (fun cdv A outer s H vs Q E hr h => ?_)
  · obtain ⟨v, rfl, _⟩ := h
    rfl
  · obtain ⟨v, rfl, hv, q⟩ := h
    refine ⟨_, pss_cons (ps_if (pt_val (pe_callB call_isiT (by rfl) mi PyProof.Rows.boot_isinstance (pa_cons (pv 1) (pa_cons (pe_tup (pa_cons (pe_bltn (v := .ty "tuple") (by rfl) mt boot_tuple rfl) (pa_cons (pe_bltn (v := .ty "list") (by rfl) ml boot_list rfl) pa_nil))) pa_nil)))) pss_never pss_nil)
      (pss_cons (ps_if (PW.pt (pw_or (pt_cmpR op_isN (pv 1) pe_non (nomark _)) (pw_or1 (pt_val (pe_callB call_isi (by rfl) mi PyProof.Rows.boot_isinstance (pa_cons (pv 1) (pa_cons (pe_bltn (v := .ty "str") (by rfl) ms boot_str rfl) pa_nil)))))))
        (pss_one (ps_ret (pe_and (pe_cmpR op_eq (pv 0) (pv 1) (nomark _)) (pe_one (pe_cmpR op_eq (pe_callB call_isi (by rfl) mi PyProof.Rows.boot_isinstance (pa_cons (pv 0) (pa_cons (pe_bltn (v := .ty "str") (by rfl) ms boot_str rfl) pa_nil)))
          (pe_callB call_isi (by rfl) mi PyProof.Rows.boot_isinstance (pa_cons (pv 1) (pa_cons (pe_bltn (v := .ty "str") (by rfl) ms boot_str rfl) pa_nil))) (nomark _)))))) pss_nil)
      (pss_one ps_never)), ?_⟩
    refine ⟨v, rfl, by show 2 ≤ sizeLine; decide, fun p np => ?_⟩
    have sm : Same H (L2.upd H p (.tup [.ty "tuple", .ty "list"])) := same_upd np
    rcases hv with rfl | ⟨z, rfl⟩
    · refine ⟨.non, p, [.ty "tuple", .ty "list"], .type "NoneType", [.type "tuple", .type "list"], false, rfl, upd_same, .cons (.ty _) (.cons (.ty _) .nil), .base .non,
        kitAny_cons (kit_ty (r := false) (by decide +kernel)) (fun _ => kitAny_cons (kit_ty (r := false) (by decide +kernel)) (fun _ => kitAny_nil) (fun h => nomatch h)) (fun h => nomatch h), false, rfl, iteF ?_⟩
      refine ⟨.non, rfl, rfl, true, rfl, iteT (iteT ?_)⟩
      refine ⟨.non, rfl, .non, rfl, rfl, true, rfl, iteT ?_⟩
      refine ⟨.non, rfl, .non, .ty "str", .type "NoneType", .type "str", false, rfl, .ty "str", .base .non, kit_ty (by decide +kernel), .non, rfl, .non, .ty "str", .type "NoneType", .type "str", false, rfl, .ty "str", .base .non, kit_ty (by decide +kernel), rfl, ?_⟩
      exact q _ sm
    · refine ⟨.str z, p, [.ty "tuple", .ty "list"], .type "str", [.type "tuple", .type "list"], false, rfl, upd_same, .cons (.ty _) (.cons (.ty _) .nil), .base (.str z),
        kitAny_cons (kit_ty (r := false) (by decide +kernel)) (fun _ => kitAny_cons (kit_ty (r := false) (by decide +kernel)) (fun _ => kitAny_nil) (fun h => nomatch h)) (fun h => nomatch h), false, rfl, iteF ?_⟩
      refine ⟨.str z, rfl, rfl, false, rfl, iteF ?_⟩
      refine ⟨.str z, rfl, .str z, .ty "str", .type "str", .type "str", true, rfl, .ty "str", .base (.str z), kit_ty (by decide +kernel), true, rfl, iteT ?_⟩
      refine ⟨.str z, rfl, .str z, rfl, rfl, true, ?_, iteT ?_⟩
      · rw [decide_eq_true rfl]
      refine ⟨.str z, rfl, .str z, .ty "str", .type "str", .type "str", true, rfl, .ty "str", .base (.str z), kit_ty (by decide +kernel), .str z, rfl, .str z, .ty "str", .type "str", .type "str", true, rfl, .ty "str", .base (.str z), kit_ty (by decide +kernel), rfl, ?_⟩
      exact q _ sm
/-! ### _law_all -/
def spLawAll : Sp := fun vs H Q _ => ∃ n : Nat, vs = [.int n] ∧ n ≤ 5 ∧ ∀ (H' : Hp) (p : Addr) (ms : List (List Nat)), Same H H' → H p = none → ms.Perm (lawAll n) → H' p = some (.lst (ms.map strV)) → Q (.ref p) H'
theorem lawAll_len : ∀ n, (lawAll n).length = 2 ^ n
  | 0 => rfl
  | n + 1 => by
    show (List.map _ (lawAll n) ++ List.map _ (lawAll n)).length = _
    rw [List.length_append, List.length_map, List.length_map, lawAll_len n, Nat.pow_succ]
    omega
theorem lawAll_mem : ∀ {n : Nat} {m : List Nat}, m ∈ lawAll n → m.length = n
  | 0, m, h => by
    simp only [lawAll, List.mem_singleton] at h
    subst h
    rfl
  | n + 1, m, h => by
    simp only [lawAll, List.mem_append, List.mem_map] at h
    rcases h with ⟨k, hk, rfl⟩ | ⟨k, hk, rfl⟩
    · simp [lawAll_mem hk]
    · simp [lawAll_mem hk]
theorem ok_lawAll {f : Addr} {fd : FuncData} (F : Fun K "_law_all" "_law_all" sLawAll f fd) (mr : mg "range" = none) (ms : mg "sorted" = none) : FnOk P w K mg base CX0 1 f fd ["_law_span"] spLawAll := by
  refine F.ok scLawAll (fun vs H Q E h => ?_) (fun cdv A outer s H vs Q E hr h => ?_)
  · obtain ⟨n, rfl, _⟩ := h
    rfl
  · obtain ⟨n, rfl, hn, q⟩ := h
    have nd := scLawAll.nd
    refine ⟨_, pss_cons (ps_set (i := 1) nd rfl (.inl rfl) (pe_lst (pa_cons pe_str pa_nil)))
      (pss_cons (ps_for PassesOwn.never rfl (pi_range1 (by rfl) mr (pa_cons (pv 0) pa_nil)) (pg_name (i := 2) nd rfl (.inl rfl))
        (pss_one (ps_set (i := 1) nd rfl (.inl rfl) (pe_op op_cat
          (pe_lc (own := [("_law_memory_here", 3)]) rfl nd (pi_list (pv 1)) (blkOk_by (N := ["_law_span", "_law_found", "_law_turn", "_law_memory_here"]) (sc := defScope sLawAll) (by decide +kernel)) (fun _ _ _ _ _ => pg_name (i := 3) nd rfl (Or.inl rfl)) (fun _ _ _ _ _ => pts_nil) (fun _ _ _ _ _ => pe_op op_add_str (pv 3) pe_str))
          (pe_lc (own := [("_law_memory_here", 3)]) rfl nd (pi_list (pv 1)) (blkOk_by (N := ["_law_span", "_law_found", "_law_turn", "_law_memory_here"]) (sc := defScope sLawAll) (by decide +kernel)) (fun _ _ _ _ _ => pg_name (i := 3) nd rfl (Or.inl rfl)) (fun _ _ _ _ _ => pts_nil) (fun _ _ _ _ _ => pe_op op_add_str (pv 3) pe_str))))))
      (pss_one (ps_ret (pe_callB cr_sortedS (by rfl) ms boot_sorted (pa_cons (pv 1) pa_nil))))), ?_⟩
    refine ⟨by show 1 ≤ sizeLine; decide, fun o no => ?_⟩
    refine ⟨.int n, rfl, n, rfl, by omega, by omega, ?_⟩
    rw [show ((n : Int)).toNat = n from rfl]
    refine for_range (lo := 0) (n := n) (fun i σ H3 => ∃ p y2, σ = [some (.int n), some (.ref p), y2, none] ∧ Same H H3 ∧ H p = none ∧ H3 p = some (.lst ((lawAll i).map strV))) ⟨o, none, rfl, same_upd no, no, ?_⟩ (fun i σ H3 hi hP => ?_) (fun σ H3 hP => ?_)
    · rw [upd_same, sE]
      rfl
    · obtain ⟨p, y2, rfl, sm, np, hp⟩ := hP
      have hz : (lawAll i).length ≤ 16 := by
        rw [lawAll_len]
        exact Nat.pow_le_pow_right (n := 2) (by decide) (show i ≤ 4 by omega)
      -- the first half
      refine ⟨.ref p, rfl, p, rfl, ⟨_, SqL.of hp⟩, fun D nD => ?_⟩
      refine it_list (xs := (lawAll i).map strV) (fun j H4 => Same H3 H4 ∧ H4 D = some (.lst ((((lawAll i).take j).map fun m => m ++ [48]).map strV))) ⟨same_upd nD, upd_same⟩ (fun j H4 _ h4 => SqL.of (h4.1 _ _ hp)) (fun j x H4 hx h4 => ?_) (fun H4 h4 => ?_)
      · obtain ⟨sm4, hD4⟩ := h4
        rw [List.getElem?_map] at hx
        cases hm : (lawAll i)[j]? with
        | none => rw [hm] at hx; cases hx
        | some m =>
          rw [hm] at hx
          cases hx
          have hm2 := lawAll_mem (List.mem_of_getElem? hm)
          refine ⟨rfl, tYes_if ⟨.str (mkS m), rfl, mkS m, Str.ofString "0", rfl, rfl, ?_, _, hD4, ?_, upd_keep sm4 nD, ?_⟩⟩
          · rw [s0, mkS_len, mkS_len]
            exact small64le (by show m.length + 1 ≤ 64; omega)
          · have e2 : ((lawAll i).take j).length ≤ (lawAll i).length := by rw [List.length_take]; omega
            rw [List.length_map, List.length_map]
            exact small64' (by omega)
          · rw [upd_same, s0, mkS_app, take_succ_get hm, List.map_append, List.map_append]
            rfl
      · obtain ⟨sm4, hD4⟩ := h4
        rw [List.length_map, List.take_length] at hD4
        have hp4 := sm4 _ _ hp
        -- the second half
        refine ⟨.ref p, rfl, p, rfl, ⟨_, SqL.of hp4⟩, fun D2 nD2 => ?_⟩
        refine it_list (xs := (lawAll i).map strV) (fun j H5 => Same H4 H5 ∧ H5 D2 = some (.lst ((((lawAll i).take j).map fun m => m ++ [49]).map strV))) ⟨same_upd nD2, upd_same⟩ (fun j H5 _ h5 => SqL.of (h5.1 _ _ hp4)) (fun j x H5 hx h5 => ?_) (fun H5 h5 => ?_)
        · obtain ⟨sm5, hD5⟩ := h5
          rw [List.getElem?_map] at hx
          cases hm : (lawAll i)[j]? with
          | none => rw [hm] at hx; cases hx
          | some m =>
            rw [hm] at hx
            cases hx
            have hm2 := lawAll_mem (List.mem_of_getElem? hm)
            refine ⟨rfl, tYes_if ⟨.str (mkS m), rfl, mkS m, Str.ofString "1", rfl, rfl, ?_, _, hD5, ?_, upd_keep sm5 nD2, ?_⟩⟩
            · rw [s1, mkS_len, mkS_len]
              exact small64le (by show m.length + 1 ≤ 64; omega)
            · have e2 : ((lawAll i).take j).length ≤ (lawAll i).length := by rw [List.length_take]; omega
              rw [List.length_map, List.length_map]
              exact small64' (by omega)
            · rw [upd_same, s1, mkS_app, take_succ_get hm, List.map_append, List.map_append]
              rfl
        · obtain ⟨sm5, hD5⟩ := h5
          rw [List.length_map, List.take_length] at hD5
          refine ⟨D, D2, _, _, rfl, rfl, sm5 _ _ hD4, hD5, ?_, fun z nz => ?_⟩
          · rw [List.length_map, List.length_map, List.length_map, List.length_map]
            exact small64le (by omega)
          · have sm6 := ((sm.trans sm4).trans sm5)
            refine ⟨z, _, rfl, sm6.trans (same_upd nz), sm6.free nz, ?_⟩
            rw [upd_same, ← List.map_append]
            rfl
    · obtain ⟨p, y2, rfl, sm, np, hp⟩ := hP
      have hz : (lawAll n).length ≤ 32 := by
        rw [lawAll_len]
        exact Nat.pow_le_pow_right (n := 2) (by decide) (show n ≤ 5 by omega)
      refine ⟨.ref p, rfl, p, (lawAll n).map mkS, rfl, ?_, by rw [List.length_map]; omega, fun ys d pm _ nd2 => ?_⟩
      · rw [List.map_map]
        exact SqL.of hp
      · have e : ys = (ys.map fun y => y.cps.toList).map mkS := by
          rw [List.map_map]
          conv => lhs; rw [← List.map_id ys]
          refine List.map_congr_left fun y _ => ?_
          simp [mkS]
        refine q _ d (ys.map fun y => y.cps.toList) (sm.trans (same_upd nd2)) (sm.free nd2) ?_ ?_
        · have h := pm.map (fun y : Str => y.cps.toList)
          rw [List.map_map] at h
          have h2 : List.map ((fun y : Str => y.cps.toList) ∘ mkS) (lawAll n) = lawAll n := by
            conv => rhs; rw [← List.map_id (lawAll n)]
            refine List.map_congr_left fun y _ => ?_
            simp [mkS]
          rw [h2] at h
          exact h
        · rw [upd_same]
          conv => lhs; rw [e]
          rw [List.map_map]
          rfl
/-! ### _law_relays -/
theorem ok_lawRel {f : Addr} {fd : FuncData} (F : Fun K "_law_relays" "_law_relays" sLawRel f fd) (mr : mg "range" = none) : FnOk P w K mg base CX0 1 f fd ["_law_span"] spAllRel := by
  refine F.ok scLawRel (fun vs H Q E h => ?_) (fun cdv A outer s H vs Q E hr h => ?_)
  · obtain ⟨n, rfl, _⟩ := h
    rfl
  · obtain ⟨n, rfl, hn, q⟩ := h
    have nd := scLawRel.nd
    refine ⟨_, pss_cons (ps_set (i := 1) nd rfl (.inl rfl) (pe_lst pa_nil))
      (pss_cons (ps_for PassesOwn.never rfl (pi_range2 (by rfl) mr (pa_cons pe_int (pa_cons (pe_op op_add (pv 0) pe_int) pa_nil))) (pg_name (i := 2) nd rfl (.inr rfl))
        (pss_one (ps_set (i := 1) nd rfl (.inl rfl) (pe_op op_cat (pv 1)
          (pe_lc (own := [("_law_low", 3)]) rfl nd (pi_range1 (by rfl) mr (pa_cons (pv 2) pa_nil)) (blkOk_by (N := ["_law_span", "_law_found", "_law_high", "_law_low"]) (sc := defScope sLawRel) (by decide +kernel)) (fun _ _ _ _ _ => pg_name (i := 3) nd rfl (Or.inl rfl)) (fun _ _ _ _ _ => pts_nil)
            (fun _ _ _ _ _ => pe_tup (pa_cons (pv 2) (pa_cons (pv 3) pa_nil)))))))) (pss_one (ps_ret (pv 1)))), ?_⟩
    refine ⟨Nat.zero_le sizeLine, fun o no => ?_⟩
    refine ⟨.int n, rfl, n, 1, rfl, rfl, 1, (n : Int) + 1, rfl, ⟨by omega, by omega, by omega, by omega⟩, ?_⟩
    rw [show ((n : Int) + 1 - 1).toNat = n by omega]
    refine for_range (lo := 1) (n := n) (fun i σ H3 => ∃ p y2, σ = [some (.int n), some (.ref p), y2, none] ∧ Same H H3 ∧ H p = none ∧ ∃ acc, H3 p = some (.lst acc) ∧ Prs H3 acc ((List.range i).flatMap rowR)) ⟨o, none, rfl, same_upd no, no, [], upd_same, .nil⟩ (fun i σ H3 hi hP => ?_) (fun σ H3 hP => ?_)
    · obtain ⟨p, y2, rfl, sm, np, acc, hp, hA⟩ := hP
      refine ⟨.ref p, rfl, .int (1 + i), rfl, 1 + i, rfl, by omega, by omega, ?_⟩
      rw [show (1 + (i : Int)).toNat = i + 1 by omega]
      intro D nD
      refine it_range (lo := 0) (n := i + 1) (fun j H4 => Same H3 H4 ∧ ∃ bcc, H4 D = some (.lst bcc) ∧ Prs H4 bcc ((List.range j).map fun (l : Nat) => ((1 : Int) + (i : Int), (l : Int)))) ⟨same_upd nD, [], upd_same, .nil⟩ (fun j H4 hj h4 => ?_) (fun H4 h4 => ?_)
      · obtain ⟨sm4, bcc, hD4, hB4⟩ := h4
        refine ⟨rfl, tYes_if ⟨.int (1 + i), rfl, .int (0 + j), rfl, by show 2 ≤ sizeLine; decide, fun T nT => ?_⟩⟩
        have nTD : D ≠ T := ne_of_none hD4 nT
        have hl : bcc.length ≤ 30 := by
          rw [hB4.length, List.length_map, List.length_range]
          omega
        refine ⟨bcc, by rw [upd_ne nTD]; exact hD4, small64' (by omega), upd_keep (sm4.trans (same_upd nT)) nD, bcc ++ [.ref T], upd_same, ?_⟩
        have hB5 := Prs.same (same_upd (o := .tup [.int (1 + i), .int (0 + j)]) nT) hB4
        have hN : Prs (L2.upd H4 T (.tup [.int (1 + i), .int (0 + j)])) [.ref T] [((1 : Int) + (i : Int), (j : Int))] := .cons ⟨T, rfl, by rw [upd_same, Int.zero_add]⟩ .nil
        have := Prs.updL (o := .lst (bcc ++ [.ref T])) (D := D) (show (L2.upd H4 T (.tup [.int (1 + i), .int (0 + j)])) D = some (.lst bcc) by rw [upd_ne nTD]; exact hD4) (Prs.append hB5 hN)
        rw [List.range_succ, List.map_append]
        exact this
      · obtain ⟨sm4, bcc, hD4, hB4⟩ := h4
        have hA4 := Prs.same sm4 hA
        have ha : acc.length ≤ 15 := by
          rw [hA.length]
          exact rows_len i (by omega)
        have hb : bcc.length ≤ 6 := by
          rw [hB4.length, List.length_map, List.length_range]
          omega
        refine ⟨p, D, acc, bcc, rfl, rfl, sm4 _ _ hp, hD4, small64le (by omega), fun z nz => ?_⟩
        have sm5 := (sm.trans sm4).trans (same_upd (o := .lst (acc ++ bcc)) nz)
        refine ⟨z, _, rfl, sm5, (sm.trans sm4).free nz, _, upd_same, ?_⟩
        rw [List.range_succ, List.flatMap_append]
        have e : List.flatMap rowR [i] = (List.range (i + 1)).map fun (l : Nat) => ((1 : Int) + (i : Int), (l : Int)) := by simp [rowR]
        rw [e]
        exact Prs.same (same_upd nz) (Prs.append hA4 hB4)
    · obtain ⟨p, y2, rfl, sm, np, acc, hp, hA⟩ := hP
      exact ⟨.ref p, rfl, q H3 p sm np ⟨acc, hp, hA⟩⟩
end
end K03

set_option Elab.async false
set_option linter.all false
set_option maxRecDepth 100000
set_option maxHeartbeats 2400000
namespace K03
open L2 PySem PySem.Spec PyProof.Rows
/-! ### what the law keeps: its row at r, the script at a, the table at T -/
structure Env3 (K : PySem.W.Frag) (r a T : Addr) (ns : List Int) (H : Hp) : Prop where
  row : RowAt H r a
  scr : SqL K H a (ns.map V.int)
  tab : GxR.TabG H T
/-- all but the row and the table is kept -/
def Kp (r T : Addr) (H H' : Hp) : Prop := ∀ b o, b ≠ r → b ≠ T → H b = some o → H' b = some o
theorem Kp.refl (r T : Addr) (H : Hp) : Kp r T H H := fun _ _ _ _ e => e
theorem Kp.trans {r T : Addr} {H H1 H2 : Hp} (a : Kp r T H H1) (b : Kp r T H1 H2) : Kp r T H H2 := fun c o h1 h2 e => b c o h1 h2 (a c o h1 h2 e)
theorem Kp.same {r T : Addr} {H H' : Hp} (sm : Same H H') : Kp r T H H' := fun b o _ _ e => sm b o e
theorem Kp.sameT {r T : Addr} {H H' : Hp} (sm : SameT T H H') : Kp r T H H' := fun b o _ h e => sm b o h e
theorem Kp.but {r T : Addr} {H H' : Hp} (bt : But r H H') : Kp r T H H' := fun b o h _ e => (bt b h).trans e
section
variable {K : PySem.W.Frag} {r a T : Addr} {ns : List Int} {H H' : Hp}
theorem Env3.rT (e : Env3 K r a T ns H) : r ≠ T := by
  obtain ⟨i, s, c, h, _⟩ := e.row
  exact TabG.ne e.tab h fun _ q => by cases q
theorem Env3.same (e : Env3 K r a T ns H) (sm : Same H H') : Env3 K r a T ns H' := by
  obtain ⟨⟨i, s, c, h, h2⟩, h3, h4⟩ := e
  exact ⟨⟨i, s, c, sm _ _ h, h2⟩, sm.seq h3, TabG.same sm h4⟩
theorem Env3.but (e : Env3 K r a T ns H) (bt : But r H H') (ra : RowAt H' r a) : Env3 K r a T ns H' := by
  have hrT := e.rT
  obtain ⟨⟨i, s, c, h, h2⟩, h3, ⟨ps, h4, h5⟩⟩ := e
  exact ⟨ra, seq_row h h3 bt, ⟨ps, (bt T (Ne.symm hrT)).trans h4, h5⟩⟩
theorem Env3.sameT (e : Env3 K r a T ns H) (sm : SameT T H H') (tg : GxR.TabG H' T) : Env3 K r a T ns H' := by
  have hrT := e.rT
  obtain ⟨⟨i, s, c, h, h2⟩, h3, h4⟩ := e
  refine ⟨⟨i, s, c, sm _ _ hrT h, h2⟩, ?_, tg⟩
  rcases h3 with (z | ⟨o, z⟩) | z
  · exact .inl (.inl (sm _ _ (TabG.ne h4 z fun _ q => by cases q) z))
  · exact .inl (.inr ⟨o, sm _ _ (TabG.ne h4 z fun _ q => by cases q) z⟩)
  · exact .inr z
theorem Env3.neR (e : Env3 K r a T ns H) {b : Addr} {xs : List V} (h : H b = some (.tup xs)) : b ≠ r := fun z => by
  obtain ⟨i, s, c, h2, _⟩ := e.row
  rw [z, h2] at h
  cases h
theorem Env3.neT (e : Env3 K r a T ns H) {b : Addr} {o : HO} (h : H b = some o) (n : ∀ ps, o ≠ .tbl ps) : b ≠ T := TabG.ne e.tab h n
theorem Env3.prs (e : Env3 K r a T ns H) (kp : Kp r T H H') {xs : List V} {rs : List (Int × Int)} (h : Prs H xs rs) : Prs H' xs rs := Paired.mapP h fun x r ⟨t, z1, z2⟩ =>
  ⟨t, z1, kp _ _ (e.neR z2) (e.neT z2 fun _ q => by cases q) z2⟩
theorem Env3.tup (e : Env3 K r a T ns H) (kp : Kp r T H H') {p : Addr} {rs : List (Int × Int)} (h : TupR H p rs) : TupR H' p rs := by
  obtain ⟨xs, z, hp⟩ := h
  exact ⟨xs, kp _ _ (e.neR z) (e.neT z fun _ q => by cases q) z, e.prs kp hp⟩
theorem Env3.lst (e : Env3 K r a T ns H) (kp : Kp r T H H') {p : Addr} (hr : p ≠ r) {rs : List (Int × Int)} (h : LstR H p rs) : LstR H' p rs := by
  obtain ⟨xs, z, hp⟩ := h
  exact ⟨xs, kp _ _ hr (e.neT z fun _ q => by cases q) z, e.prs kp hp⟩
/-- a new object is not the row -/
theorem Env3.new (e : Env3 K r a T ns H) {p : Addr} (h : H p = none) : p ≠ r := fun z => by
  obtain ⟨i, s, c, h2, _⟩ := e.row
  rw [z, h2] at h
  cases h
theorem Env3.prk (e : Env3 K r a T ns H) (kp : Kp r T H H') {ps : List Addr} {kvs : List (List (Int × Int) × V)} (h : Paired (PrK H) ps kvs) : Paired (PrK H') ps kvs := Paired.mapP h fun p kv ⟨t, z1, z2⟩ =>
  ⟨t, kp _ _ (e.neR z1) (e.neT z1 fun _ q => by cases q) z1, e.tup kp z2⟩
end
theorem prk_same {H H' : Hp} (sm : Same H H') {ps : List Addr} {kvs : List (List (Int × Int) × V)} (h : Paired (PrK H) ps kvs) : Paired (PrK H') ps kvs := Paired.mapP h fun p kv ⟨t, z1, z2⟩ =>
  ⟨t, sm _ _ z1, z2.same sm⟩
theorem prk_upd {H : Hp} {D : Addr} {acc : List V} {o : HO} (hD : H D = some (.lst acc)) {ps : List Addr} {kvs : List (List (Int × Int) × V)} (h : Paired (PrK H) ps kvs) : Paired (PrK (upd H D o)) ps kvs := Paired.mapP h fun p kv ⟨t, z1, ⟨xs, z2, z3⟩⟩ =>
  ⟨t, by rw [upd_ne (ne_of z1 hD (by intro z; cases z))]; exact z1, ⟨xs, by rw [upd_ne (ne_of z2 hD (by intro z; cases z))]; exact z2, Prs.updL hD z3⟩⟩
theorem paired_app {α β : Type} {F : α → β → Prop} : ∀ {l : List α} {m : List β} {l2 : List α} {m2 : List β}, Paired F l m → Paired F l2 m2 → Paired F (l ++ l2) (m ++ m2)
  | _, _, _, _, .nil, h => h
  | _, _, _, _, .cons r t, h => .cons r (paired_app t h)
theorem dic_same {P : Program} {w : World} {H H' : Hp} (sm : Same H H') {d : Addr} {kvs : List (List (Int × Int) × V)} (h : DicR P w H d kvs) : DicR P w H' d kvs :=
  let ⟨xs, e, p⟩ := h; ⟨xs, sm _ _ e, ent_same sm p⟩
/-! ### texts -/
theorem join_ones : ∀ l : List Nat, Str.join (mkS []) (l.map fun c => mkS [c]) = mkS l
  | [] => rfl
  | [c] => rfl
  | c :: d :: l => by
    have ih := join_ones (d :: l)
    show mkS [c] ++ mkS [] ++ Str.join (mkS []) ((d :: l).map fun c => mkS [c]) = _
    rw [ih, mkS_app, mkS_app]
    rfl
theorem u10 {k : Nat} {A : Around} (hr : Room k A) : A.units + 10 < cLine := by
  have := hr.un
  omega
theorem u9 {k : Nat} {A : Around} (hr : Room k A) : A.units + 9 < cLine := by
  have := hr.un
  omega
/-- one of the law's sets -/
def SetOk (n : Nat) (H : Hp) (p : Addr) : Prop := ∃ rs, LstR H p rs ∧ Valid n rs ∧ rs.length ≤ 32
theorem SetOk.same {n : Nat} {H H' : Hp} (sm : Same H H') {p : Addr} (h : SetOk n H p) : SetOk n H' p := let ⟨rs, l, v⟩ := h; ⟨rs, l.same sm, v⟩
theorem lookR_map {n : Nat} (hn : n ∈ spans) {ms : List (List Nat)} (hm : ms.Perm (lawAll n)) {rs ss : List (Int × Int)} (hs : ss.Pairwise Lex) (hp : ss.Perm rs) :
    lookR (ms.map fun m => (onF m, strV m)) ss = optV (foundF n rs) := by
  rw [← table_find hn hm hs hp]
  unfold lookR
  rw [List.find?_map]
  show (((ms.find? ((fun kv : List (Int × Int) × V => decide (kv.1 = ss)) ∘ fun m => (onF m, strV m))).map fun m => (onF m, strV m)).map (·.2)).getD .non = _
  have e : ((fun kv : List (Int × Int) × V => decide (kv.1 = ss)) ∘ fun m => (onF m, strV m)) = fun m => decide (onF m = ss) := rfl
  rw [e]
  cases ms.find? fun m => decide (onF m = ss) <;> rfl
end K03

set_option Elab.async false
set_option linter.all false
set_option maxRecDepth 100000
set_option maxHeartbeats 4400000
namespace K03
open L2 PySem PySem.Spec PyProof.Rows
theorem gN_eq {i : Nat} {v v' : V} {σ : L2.St} {H : Hp} {Q : L2.St → Hp → Prop} (e : v = v') (h : gName i v' σ H Q) : gName i v σ H Q := e ▸ h
theorem fresh_scr {K : PySem.W.Frag} {H : Hp} {a D : Addr} {xs : List V} (h : H D = none) (hS : SqL K H a xs) : D ≠ a ∨ ∀ H', SqL K H' a xs := by
  rcases hS with (z | ⟨o, z⟩) | z
  · exact .inl (Ne.symm (ne_of_none z h))
  · exact .inl (Ne.symm (ne_of_none z h))
  · exact .inr fun _ => .inr z
theorem Env3.updD {K : PySem.W.Frag} {r a T D : Addr} {ns : List Int} {H : Hp} {xs : List V} {o : HO} (e : Env3 K r a T ns H) (hD : H D = some (.lst xs)) (hr : D ≠ r) (hf : D ≠ a ∨ ∀ H', SqL K H' a (ns.map V.int)) : Env3 K r a T ns (upd H D o) := by
  have hT : D ≠ T := e.neT hD fun _ q => by cases q
  obtain ⟨⟨i, s, c, h, h2⟩, h3, ⟨ps, h4, h5⟩⟩ := e
  refine ⟨⟨i, s, c, by rw [upd_ne (Ne.symm hr)]; exact h, h2⟩, ?_, ⟨ps, by rw [upd_ne (Ne.symm hT)]; exact h4, h5⟩⟩
  rcases hf with hf | hf
  · rcases h3 with (z | ⟨o, z⟩) | z
    · exact .inl (.inl (by rw [upd_ne (Ne.symm hf)]; exact z))
    · exact .inl (.inr ⟨o, by rw [upd_ne (Ne.symm hf)]; exact z⟩)
    · exact .inr z
  · exact hf _
theorem Kp.updD {r T D : Addr} {H0 H : Hp} {o : HO} (k : Kp r T H0 H) (nD : H0 D = none) : Kp r T H0 (upd H D o) := fun b u h1 h2 e => by
  rw [upd_ne (ne_of_none e nD)]
  exact k b u h1 h2 e
theorem PR.same {H H' : Hp} (sm : Same H H') {x : V} {r : Int × Int} (h : PR H x r) : PR H' x r := let ⟨t, z1, z2⟩ := h; ⟨t, z1, sm _ _ z2⟩
theorem kk_cases (rx : Int × Int) (rs : List (Int × Int)) : ∃ kk : Int, V.int (if (!(rs.map prP).any fun z => PyData.eqv z (prP rx)) = true then 1 else 0) = V.int kk ∧ ((rx ∈ rs ∧ kk = 0) ∨ (rx ∉ rs ∧ kk = 1)) := by
  rw [any_eqv]
  by_cases h : rx ∈ rs
  · exact ⟨0, by rw [decide_eq_true h]; rfl, .inl ⟨h, rfl⟩⟩
  · exact ⟨1, by rw [decide_eq_false h]; rfl, .inr ⟨h, rfl⟩⟩
theorem SetOk.kp {K : PySem.W.Frag} {r a T : Addr} {ns : List Int} {H H' : Hp} {n : Nat} {p : Addr} (e : Env3 K r a T ns H) (k : Kp r T H H') (hr : p ≠ r) (h : SetOk n H p) : SetOk n H' p := let ⟨rs, l, v⟩ := h; ⟨rs, e.lst k hr l, v⟩
theorem LstR.updL {H : Hp} {S p : Addr} {xs : List V} {o : HO} {rs : List (Int × Int)} (hS : H S = some (.lst xs)) (hp : p ≠ S) (h : LstR H p rs) : LstR (upd H S o) p rs := let ⟨ys, z1, z2⟩ := h; ⟨ys, by rw [upd_ne hp]; exact z1, Prs.updL hS z2⟩
theorem SetOk.updL {n : Nat} {H : Hp} {S p : Addr} {xs : List V} {o : HO} (hS : H S = some (.lst xs)) (hp : p ≠ S) (h : SetOk n H p) : SetOk n (upd H S o) p := let ⟨rs, l, v⟩ := h; ⟨rs, l.updL hS hp, v⟩
theorem LstR.ne {H : Hp} {p S : Addr} {rs : List (Int × Int)} (h : LstR H p rs) (n : H S = none) : p ≠ S := let ⟨_, z, _⟩ := h; ne_of_none z n
theorem ones_len : ∀ l : List Nat, ((l.map fun c => mkS [c]).map (·.length)).sum = l.length
  | [] => rfl
  | c :: l => by
    rw [List.map_cons, List.map_cons, List.sum_cons, ones_len l, mkS_len]
    simp only [List.length_nil, List.length_cons]
    omega
abbrev NL : List Str := ["_law_script", "_law_row", "_law_span", "_law_some", "_law_memory_here", "_law_base", "_law_at", "_law_one", "_law_sets", "_law_table", "_law_k"]
section
variable {P : Program} {w : World} {K : PySem.W.Frag} {base : Heap} {mg : Str → Option Value}
def spLaw (K : PySem.W.Frag) (T : Addr) : Sp := fun vs H Q _ => ∃ (a : Addr) (ns : List Int), vs = [.ref a] ∧ SqL K H a (ns.map V.int) ∧ GxR.TabG H T ∧ ∀ H', Q (.bl true) H'
theorem ok_law {f fT fP fLR fRO fLA fAL fMO T : Addr} {fd dT dP dLR dRO dLA dAL dMO : FuncData} (F : Fun K "law" "law" sLaw f fd)
    (FT : Fun K "_law_taken" "_law_taken" sTaken fT dT) (bT : Binds K dT ["_law_row", "_law_many"] []) (gT : mg "_law_taken" = some (.ref fT)) (GT : FnOk P w K mg base CX0 1 fT dT ["_law_row", "_law_many"] (spTaken K))
    (FP : Fun K "_law_pick" "_law_pick" sPick fP dP) (bP : Binds K dP ["_law_row", "_law_things"] []) (gP : mg "_law_pick" = some (.ref fP)) (GP : FnOk P w K mg base CX0 2 fP dP ["_law_row", "_law_things"] (spPick K))
    (FLR : Fun K "_law_relays" "_law_relays" sLawRel fLR dLR) (bLR : Binds K dLR ["_law_span"] []) (gLR : mg "_law_relays" = some (.ref fLR)) (GLR : FnOk P w K mg base CX0 1 fLR dLR ["_law_span"] spAllRel)
    (FRO : Fun K "relays_on" "relays_on" sRelOn fRO dRO) (bRO : Binds K dRO ["memory"] []) (gRO : mg "relays_on" = some (.ref fRO)) (GRO : FnOk P w K mg base CX0 4 fRO dRO ["memory"] (spRelOn T))
    (FLA : Fun K "_law_all" "_law_all" sLawAll fLA dLA) (bLA : Binds K dLA ["_law_span"] []) (gLA : mg "_law_all" = some (.ref fLA)) (GLA : FnOk P w K mg base CX0 1 fLA dLA ["_law_span"] spLawAll)
    (FAL : Fun K "_law_alike" "_law_alike" sAlike fAL dAL) (bAL : Binds K dAL ["_law_found", "_law_due"] []) (gAL : mg "_law_alike" = some (.ref fAL)) (GAL : FnOk P w K mg base CX0 1 fAL dAL ["_law_found", "_law_due"] spAlike)
    (FMO : Fun K "memory_of" "memory_of" sMemOf fMO dMO) (bMO : Binds K dMO ["span", "relays"] []) (gMO : mg "memory_of" = some (.ref fMO)) (GMO : FnOk P w K mg base CX0 4 fMO dMO ["span", "relays"] spMemOf)
    (mr : mg "range" = none) (mli : mg "list" = none) (ml : mg "len" = none) (mi : mg "int" = none) (md : mg "dict" = none) (mt : mg "tuple" = none) (ms : mg "sorted" = none) :
    FnOk P w K mg base CX0 5 f fd ["_law_script"] (spLaw K T) := by
  refine F.ok scLaw (fun vs H Q E h => ?_) (fun cdv A outer s H vs Q E hr h => ?_)
  · obtain ⟨a, ns, rfl, _⟩ := h
    rfl
  · obtain ⟨a, ns, rfl, hS, hT, q⟩ := h
    have nd := scLaw.nd
    refine ⟨_, pss_cons (ps_set (i := 1) nd rfl (.inr rfl) (pe_lst (pa_cons (pv 0) (pa_cons pe_int (pa_cons pe_int (pa_cons pe_int pa_nil))))))
      (pss_cons (ps_set (i := 2) nd rfl (.inl rfl) (pe_op op_add pe_int (pe_call GT (hr.mono (by decide)) (by rfl) gT FT.kp bT .nil pass0 (pa_cons (pv 1) (pa_cons pe_int pa_nil)))))
      (pss_cons (ps_set (i := 3) nd rfl (.inr rfl) (pe_call GLR (hr.mono (by decide)) (by rfl) gLR FLR.kp bLR .nil pass0 (pa_cons (pv 2) pa_nil)))
      (pss_cons (ps_set (i := 4) nd rfl (.inl rfl) (pe_join pe_str (pe_lc (own := [("_law_k", 10)]) rfl nd (pi_range1 (by rfl) mr (pa_cons (pv 2) pa_nil)) (blkOk_by (N := NL) (sc := defScope sLaw) (by decide +kernel)) (fun _ _ _ _ _ => pg_name (i := 10) nd rfl (Or.inl rfl)) (fun _ _ _ _ _ => pts_nil)
        (fun _ _ _ _ _ => pe_call GP (hr.mono (by decide)) (by rfl) gP FP.kp bP .nil pass0 (pa_cons (pv 1) (pa_cons pe_str pa_nil))))))
      (pss_cons (ps_set (i := 5) nd rfl (.inl rfl) (pe_callTy call_list_of (by rfl) mli boot_list (pa_cons (pe_call GRO hr (by rfl) gRO FRO.kp bRO .nil pass0 (pa_cons (pv 4) pa_nil)) pa_nil)))
      (pss_cons (ps_set (i := 6) nd rfl (.inr rfl) (pe_call GT (hr.mono (by decide)) (by rfl) gT FT.kp bT .nil pass0 (pa_cons (pv 1) (pa_cons (pe_callB call_len_seq (by rfl) ml PySem.boot_len (pa_cons (pv 3) pa_nil)) pa_nil))))
      (pss_cons (ps_set (i := 8) nd rfl (.inl rfl) (pe_lst (pa_cons (pv 5) (pa_cons (pe_lst pa_nil) (pa_cons (pv 3)
        (pa_cons (pe_lc (own := [("_law_one", 7)]) (tt := tTest (tOp (rNeD K) (tVar 7) (tOp (rIxL K) (tVar 3) (tVar 6)))) rfl nd (pi_list (pv 5)) (blkOk_by (N := NL) (sc := defScope sLaw) (by decide +kernel)) (fun _ _ _ _ _ => pg_name (i := 7) nd rfl (Or.inl rfl)) (fun _ _ _ _ _ => pts_one (pt_cmpR (op_neD hr.units) (pv 7) (pe_ix ix_list (pv 3) (pv 6) (fun _ _ => rfl)) (nomark _))) (fun _ _ _ _ _ => pv 7))
        (pa_cons (pe_op op_cat (pv 5) (pe_op op_rep (pe_lst (pa_cons (pe_ix ix_list (pv 3) (pv 6) (fun _ _ => rfl)) pa_nil)) (pe_callTy call_int1 (by rfl) mi boot_int (pa_cons (pe_cmpR (op_notInD (u65 hr)) (pe_ix ix_list (pv 3) (pv 6) (fun _ _ => rfl)) (pv 5) (by rfl)) pa_nil)))) pa_nil)))))))
      (pss_cons (ps_expr (pe_bm PySem.F.plainAttrs_list PySem.F.slot_list_append PySem.F.type_list_append mt_append (pv 8) (pa_cons
        (pe_lc (own := [("_law_one", 7)]) rfl nd (pi_list (pv 3)) (blkOk_by (N := NL) (sc := defScope sLaw) (by decide +kernel)) (fun _ _ _ _ _ => pg_name (i := 7) nd rfl (Or.inl rfl)) (fun _ _ _ _ _ => pts_one (pt_cmpR op_eq (pe_call GT (hr.mono (by decide)) (by rfl) gT FT.kp bT .nil pass0 (pa_cons (pv 1) (pa_cons pe_int pa_nil))) pe_int (nomark _))) (fun _ _ _ _ _ => pv 7)) pa_nil)))
      (pss_cons (ps_set (i := 9) nd rfl (.inl rfl) (pe_callTy (call_dictN rfl (u10 hr)) (by rfl) md boot_dict (pa_cons
        (pe_lc (own := [("_law_one", 7)]) rfl nd (pi_list (pe_call GLA (hr.mono (by decide)) (by rfl) gLA FLA.kp bLA .nil pass0 (pa_cons (pv 2) pa_nil))) (blkOk_by (N := NL) (sc := defScope sLaw) (by decide +kernel)) (fun _ _ _ _ _ => pg_name (i := 7) nd rfl (Or.inl rfl)) (fun _ _ _ _ _ => pts_nil)
          (fun _ _ _ _ _ => pe_tup (pa_cons (pe_call GRO hr (by rfl) gRO FRO.kp bRO .nil pass0 (pa_cons (pv 7) pa_nil)) (pa_cons (pv 7) pa_nil)))) pa_nil)))
      (pss_cons (ps_if (pt_cmpR op_ne (pe_callB call_lenN (by rfl) ml PySem.boot_len (pa_cons (pv 9) pa_nil)) (pe_callB call_len_seq (by rfl) ml PySem.boot_len (pa_cons (pe_call GLA (hr.mono (by decide)) (by rfl) gLA FLA.kp bLA .nil pass0 (pa_cons (pv 2) pa_nil)) pa_nil)) (nomark _)) (pss_one ps_never) pss_nil)
      (pss_cons (ps_for PassesOwn.never rfl (pi_list (pv 8)) (pg_name (i := 7) nd rfl (.inl rfl))
        (pss_one (ps_if (pt_not (pt_val (pe_call GAL (hr.mono (by decide)) (by rfl) gAL FAL.kp bAL .nil pass0
          (pa_cons (pe_call GMO hr (by rfl) gMO FMO.kp bMO .nil pass0 (pa_cons (pv 2) (pa_cons (pe_callTy call_tuple_of (by rfl) mt boot_tuple (pa_cons (pv 7) pa_nil)) pa_nil)))
          (pa_cons (pe_getN (u9 hr) (pv 9) (pe_callTy call_tuple_of (by rfl) mt boot_tuple (pa_cons (pe_callB cr_sortedPO (by rfl) ms boot_sorted (pa_cons (pv 7) pa_nil)) pa_nil)) ⟨rfl, rfl, rfl, rfl⟩) pa_nil))))) (pss_one ps_never) pss_nil)))
      (pss_one (ps_ret (pe_cmpR op_eq (pe_call GMO hr (by rfl) gMO FMO.kp bMO .nil pass0 (pa_cons (pv 2) (pa_cons (pe_callTy call_tuple_of (by rfl) mt boot_tuple (pa_cons (pv 5) pa_nil)) pa_nil))) (pv 4) (nomark _)))))))))))))), ?_⟩
    -- the row
    refine ⟨.ref a, rfl, by show 4 ≤ sizeLine; decide, fun r nr => ?_⟩
    have e1 : Env3 K r a T ns (L2.upd H r (.lst [.ref a, .int 0, .int 5503, .int 0])) := ⟨⟨0, 5503, 0, upd_same, by decide, by decide⟩, (same_upd nr).seq hS, TabG.same (same_upd nr) hT⟩
    -- the span
    refine ⟨.ref r, rfl, r, a, 5, ns, rfl, by decide, by decide, e1.row, e1.scr, fun H2 d bt2 ra2 hd => ?_⟩
    have e2 := e1.but bt2 ra2
    clear bt2 ra2 e1
    obtain ⟨n, hn, h1, h5, en⟩ : ∃ n : Nat, n ∈ spans ∧ 1 ≤ n ∧ n ≤ 5 ∧ 1 + (d : Int) = (n : Int) := ⟨d + 1, mem_spans (by omega) (by omega), by omega, by omega, by omega⟩
    refine ⟨1, d, rfl, rfl, gN_eq (show V.int (1 + (d : Int)) = V.int (n : Int) by rw [en]) ?_⟩
    -- the relays
    refine ⟨.int n, rfl, n, rfl, h5, fun H3 p sm3 np3 hp3 => ?_⟩
    have pr := e2.new np3
    have e3 := e2.same sm3
    clear sm3 np3 e2
    -- the memory
    refine ⟨⟨_, rfl⟩, .int n, rfl, n, rfl, by omega, by omega, ?_⟩
    rw [show ((n : Int)).toNat = n from rfl]
    intro D nD
    have fD := fresh_scr nD e3.scr
    have Dr := e3.new nD
    refine it_range (lo := 0) (n := n) (fun i H4 => Env3 K r a T ns H4 ∧ Kp r T H3 H4 ∧ ∃ l : List Nat, l.length = i ∧ (∀ c ∈ l, c = 48 ∨ c = 49) ∧ H4 D = some (.lst (l.map fun c => strV [c]))) ⟨e3.same (same_upd nD), .same (same_upd nD), [], rfl, fun c hc => by simp at hc, upd_same⟩ (fun i H4 hi h4 => ?_) (fun H4 h4 => ?_)
    · obtain ⟨e4, k4, l, hl, hc, hD4⟩ := h4
      refine ⟨rfl, tYes_if ⟨.ref r, rfl, r, a, [48, 49], ns, (by rw [s01]; rfl), by decide, by decide, e4.row, e4.scr, fun H5 c bt ra hcm => ?_⟩⟩
      have e5 := e4.but bt ra
      have hD5 := (bt D Dr).trans hD4
      refine ⟨_, hD5, by rw [List.length_map]; exact small64' (by omega), e5.updD hD5 Dr fD, (k4.trans (.but bt)).updD nD, l ++ [c], by rw [List.length_append, hl]; rfl, fun x hx => ?_, ?_⟩
      · refine (List.mem_append.mp hx).elim (hc x) fun last => ?_
        rw [List.mem_singleton.mp last]
        simpa using hcm
      · rw [upd_same, List.map_append]
        rfl
    obtain ⟨e4, k4, l, hl, hc, hD4⟩ := h4
    have hM : IsMem l := ⟨by omega, by omega, hc⟩
    have hlm : l ∈ allMem n := mem_allMem.mpr ⟨hl, hc⟩
    refine ⟨_, D, l.map fun c => mkS [c], rfl, rfl, .inl (SqL.of (by rw [hD4, List.map_map]; rfl)), ?_, gN_eq (show V.str (PySem.Txt.join (Str.ofString "") (l.map fun c => mkS [c])) = strV l from ?_) ?_⟩
    · rw [ones_len, sE, mkS_len, List.length_map]
      show l.length + l.length * 0 ≤ 16777216
      omega
    · rw [sE, TL.join_eq, join_ones]
    have hp4 := e3.lst k4 pr hp3
    clear hD4 k4 fD Dr nD hp3 e3
    -- the base
    refine ⟨strV l, rfl, l, rfl, hM, e4.tab, fun H5 t smT tg tup => ?_⟩
    have e5 := e4.sameT smT tg
    have hp5 := e4.lst (.sameT smT) pr hp4
    obtain ⟨bs, hbs, hbp⟩ := tup
    refine ⟨t, bs, rfl, .inr (SqT.of hbs), fun b nb => ?_⟩
    have br := e5.new nb
    have e6 := e5.same (same_upd (o := .lst bs) nb)
    have hp6 := LstR.same (same_upd (o := .lst bs) nb) hp5
    have hb6 : LstR (L2.upd H5 b (.lst bs)) b (onF l) := ⟨bs, upd_same, Prs.same (same_upd nb) hbp⟩
    clear hbp hbs hp5 hp4 smT tg e5 e4
    -- at
    obtain ⟨os, hos, hop⟩ := id hp6
    have hol : os.length = (allRel n).length := hop.length
    have hor : (allRel n).length ≤ 15 := (f_len n hn).2
    have hor1 : 1 ≤ (allRel n).length := by
      have : n = 1 ∨ n = 2 ∨ n = 3 ∨ n = 4 ∨ n = 5 := by omega
      rcases this with e | e | e | e | e <;> subst e <;> decide
    refine ⟨.ref r, rfl, .ref p, rfl, p, os, rfl, .inl (SqL.of hos), r, a, (allRel n).length, ns, (by rw [hol]; rfl), hor1, by omega, e6.row, e6.scr, fun H7 at_ bt7 ra7 hat => ?_⟩
    have e7 := e6.but bt7 ra7
    have hp7 := e6.lst (.but bt7) pr hp6
    have hb7 := e6.lst (.but bt7) br hb6
    clear hp6 hb6 hos hop e6 bt7 ra7 hol
    obtain ⟨os, hos, hop⟩ := hp7
    obtain ⟨bs, hbs, hbp⟩ := hb7
    have hrx : (allRel n)[at_]? = some (allRel n)[at_] := List.getElem?_eq_getElem hat
    generalize hrr : (allRel n)[at_] = rx at hrx
    obtain ⟨x, hx, hpx⟩ := Prs.get hop hrx
    have hrm : rx ∈ allRel n := List.mem_of_getElem? hrx
    have hvb : Valid n (onF l) := valid_on hn hl
    have hbl : (onF l).length ≤ 15 := by
      have := List.length_filter_le (holdsF l) (allRel l.length)
      rw [hl] at this
      show (List.filter (holdsF l) (allRel l.length)).length ≤ 15
      rw [hl]
      omega
    -- the sets
    refine ⟨.ref b, rfl, Nat.zero_le _, fun z1 nz1 => ?_⟩
    have sm1 := same_upd (o := .lst []) nz1
    have hz1 : (L2.upd H7 z1 (.lst [])) z1 = some (.lst []) := upd_same
    have z1r := e7.new nz1
    have e8 := e7.same sm1
    generalize L2.upd H7 z1 (.lst []) = H8 at sm1 hz1 e8 ⊢
    have hos8 := sm1 _ _ hos
    have hbs8 := sm1 _ _ hbs
    have hop8 := Prs.same sm1 hop
    have hbp8 := Prs.same sm1 hbp
    have hpx8 := PR.same sm1 hpx
    clear hos hbs hop hbp hpx sm1 nz1 e7
    refine ⟨.ref p, rfl, .ref b, rfl, b, rfl, ⟨bs, SqL.of hbs8⟩, fun D nD => ?_⟩
    have Dr := e8.new nD
    refine it_list (K := K) (a := b) (xs := bs) (fun i H9 => Same H8 H9 ∧ ∃ acc rs, H9 D = some (.lst acc) ∧ Prs H9 acc rs ∧ rs.Sublist ((onF l).take i)) ⟨same_upd nD, [], [], upd_same, .nil, List.nil_sublist _⟩ (fun i H9 _ h9 => SqL.of (h9.1 _ _ hbs8)) (fun i y H9 hy h9 => ?_) (fun H9 h9 => ?_)
    · obtain ⟨sm9, acc, rs, hD9, hA9, hsub⟩ := h9
      obtain ⟨ry, hry, ty, rfl, hty⟩ := Prs.get' hbp8 hy
      refine ⟨rfl, .ref ty, rfl, .ref p, rfl, .int at_, rfl, p, os, at_, x, rfl, rfl, SqL.of (sm9 _ _ hos8), atI_nat hx, prP ry, prP rx, dp_pr ⟨ty, rfl, sm9 _ _ hty⟩, dp_pr (PR.same sm9 hpx8), prP_shaped _, prP_shaped _, _, rfl, ite2 (fun e => ?_) (fun e => ?_)⟩
      · have hlen : acc.length ≤ 15 := by
          have z1 := hsub.length_le
          rw [List.length_take] at z1
          rw [hA9.length]
          omega
        refine ⟨.ref ty, rfl, acc, hD9, small64' (by omega), upd_keep sm9 nD, acc ++ [.ref ty], rs ++ [ry], upd_same, Prs.updL hD9 (Prs.append hA9 (.cons ⟨ty, rfl, sm9 _ _ hty⟩ .nil)), ?_⟩
        rw [take_succ_get hry]
        exact hsub.append (List.Sublist.refl _)
      · refine ⟨sm9, acc, rs, hD9, hA9, ?_⟩
        rw [take_succ_get hry]
        exact hsub.trans (List.sublist_append_left _ _)
    obtain ⟨sm9, acc, rs4, hD9, hA9, hsub⟩ := h9
    rw [hbp8.length, List.take_length] at hsub
    have e9 := e8.same sm9
    have hos9 := sm9 _ _ hos8
    have hbs9 := sm9 _ _ hbs8
    have hop9 := Prs.same sm9 hop8
    have hbp9 := Prs.same sm9 hbp8
    have hpx9 := PR.same sm9 hpx8
    have hz9 := sm9 _ _ hz1
    clear hos8 hbs8 hop8 hbp8 hpx8 hz1 sm9 nD e8
    have hset9 : ∀ u ∈ [b, z1, p, D], u ≠ r ∧ SetOk n H9 u := by
      intro u hu
      simp only [List.mem_cons, List.not_mem_nil, or_false] at hu
      rcases hu with e | e | e | e <;> subst e
      · exact ⟨br, onF l, ⟨bs, hbs9, hbp9⟩, hvb, by omega⟩
      · exact ⟨z1r, [], ⟨[], hz9, .nil⟩, valid_nil, by decide⟩
      · exact ⟨pr, allRel n, ⟨os, hos9, hop9⟩, valid_all hn, by omega⟩
      · exact ⟨Dr, rs4, ⟨acc, hD9, hA9⟩, valid_sub hvb hsub, by have := hsub.length_le; omega⟩
    obtain ⟨kk, hkk, hkc⟩ := kk_cases rx (onF l)
    -- base + [some[at]] * int(..)
    refine ⟨.ref b, rfl, .ref p, rfl, .int at_, rfl, p, os, at_, x, rfl, rfl, SqL.of hos9, atI_nat hx, by show 1 ≤ sizeLine; decide, fun z2 nz2 => ?_⟩
    have sm10 := same_upd (o := .lst [x]) nz2
    have hz2 : (L2.upd H9 z2 (.lst [x])) z2 = some (.lst [x]) := upd_same
    generalize L2.upd H9 z2 (.lst [x]) = H10 at sm10 hz2 ⊢
    refine ⟨.ref p, rfl, .int at_, rfl, p, os, at_, x, rfl, rfl, SqL.of (sm10 _ _ hos9), atI_nat hx, .ref b, rfl, prP rx, (onF l).map prP, dp_pr (PR.same sm10 hpx9), .lst (SqL.of (sm10 _ _ hbs9)) (dp_prs (Prs.same sm10 hbp9)), prP_shaped _, prL_shaped _, .inr ⟨_, rfl, z2, kk, [x], rfl, hkk, hz2, by omega, by omega, ?_, fun z3 nz3 => ?_⟩⟩
    · exact small64le (by show 1 * kk.toNat ≤ 64; omega)
    have sm11 := sm10.trans (same_upd (o := .lst (List.replicate kk.toNat [x]).flatten) nz3)
    have hz3 : (L2.upd H10 z3 (.lst (List.replicate kk.toNat [x]).flatten)) z3 = some (.lst (List.replicate kk.toNat [x]).flatten) := upd_same
    generalize L2.upd H10 z3 (.lst (List.replicate kk.toNat [x]).flatten) = H11 at sm11 hz3 ⊢
    have hss : ∃ ss, Prs H11 (List.replicate kk.toNat [x]).flatten ss ∧ Valid n (onF l ++ ss) ∧ ss.length ≤ 1 := by
      rcases hkc with ⟨_, e⟩ | ⟨hni, e⟩
      · subst e
        exact ⟨[], .nil, by rw [List.append_nil]; exact hvb, by decide⟩
      · subst e
        exact ⟨[rx], .cons (PR.same sm11 hpx9) .nil, valid_add hn hl hrm hni, Nat.le_refl 1⟩
    obtain ⟨ss, hs1, hs2, hs3⟩ := hss
    have hs4 := hs1.length
    refine ⟨b, z3, bs, _, rfl, rfl, sm11 _ _ hbs9, hz3, small64le (by rw [hs4, hbp9.length]; omega), fun z4 nz4 => ?_⟩
    have e11 := e9.same sm11
    have z4r := e11.new nz4
    have sm12 := sm11.trans (same_upd (o := .lst (bs ++ (List.replicate kk.toNat [x]).flatten)) nz4)
    have hz4 : LstR (L2.upd H11 z4 (.lst (bs ++ (List.replicate kk.toNat [x]).flatten))) z4 (onF l ++ ss) := ⟨_, upd_same, Prs.same (same_upd nz4) (Prs.append (Prs.same sm11 hbp9) hs1)⟩
    generalize L2.upd H11 z4 (.lst (bs ++ (List.replicate kk.toNat [x]).flatten)) = H12 at sm12 hz4 ⊢
    have e12 := e9.same sm12
    refine ⟨by show 5 ≤ sizeLine; decide, fun S nS => ?_⟩
    have fS := fresh_scr nS e12.scr
    have Sr := e12.new nS
    have hset12 : ∀ u ∈ [b, z1, p, D, z4], u ≠ r ∧ u ≠ S ∧ SetOk n H12 u := by
      intro u hu
      have h : u ≠ r ∧ SetOk n H12 u := by
        rcases List.mem_append.mp (show u ∈ [b, z1, p, D] ++ [z4] from hu) with h | h
        · exact ⟨(hset9 u h).1, (hset9 u h).2.same sm12⟩
        · rw [List.mem_singleton.mp h]
          exact ⟨z4r, onF l ++ ss, hz4, hs2, by rw [List.length_append]; omega⟩
      refine ⟨h.1, ?_, h.2⟩
      obtain ⟨rs, z, _⟩ := h.2
      exact z.ne nS
    have hb12 : LstR H12 b (onF l) := ⟨bs, sm12 _ _ hbs9, Prs.same sm12 hbp9⟩
    have hp12 : LstR H12 p (allRel n) := ⟨os, sm12 _ _ hos9, Prs.same sm12 hop9⟩
    clear hset9 hos9 hbs9 hop9 hbp9 hpx9 hz9 hkk hkc sm10 sm11 sm12 hz2 hz3 hz4 hs1 hs2 hs3 hs4 e9 e11 nz2 nz3 nz4 hD9 hA9 hsub
    have sm13 := same_upd (o := .lst [.ref b, .ref z1, .ref p, .ref D, .ref z4]) nS
    have hS13 : (L2.upd H12 S (.lst [.ref b, .ref z1, .ref p, .ref D, .ref z4])) S = some (.lst ([b, z1, p, D, z4].map V.ref)) := upd_same
    generalize hqs : [b, z1, p, D, z4] = qs at hS13 hset12
    have hql : qs.length = 5 := by rw [← hqs]; rfl
    have hbq : b ∈ qs := by rw [← hqs]; exact List.mem_cons_self
    show tSeq _ _ _ _ (L2.upd H12 S (.lst [.ref b, .ref z1, .ref p, .ref D, .ref z4]))
    generalize L2.upd H12 S (.lst [.ref b, .ref z1, .ref p, .ref D, .ref z4]) = H13 at sm13 hS13 ⊢
    have e13 := e12.same sm13
    have hp13 := hp12.same sm13
    obtain ⟨os, hos, hop⟩ := id hp13
    -- _law_sets.append(..)
    refine ⟨.ref S, rfl, .inl ⟨rfl, _, SqL.of hS13⟩, .ref p, rfl, p, rfl, ⟨os, SqL.of hos⟩, fun D2 nD2 => ?_⟩
    have fD2 := fresh_scr nD2 e13.scr
    have D2r := e13.new nD2
    have D2S : D2 ≠ S := Ne.symm (ne_of_none hS13 nD2)
    have pT := e13.neT hos (fun _ q => by cases q)
    refine it_list (K := K) (a := p) (xs := os) (fun i H14 => Env3 K r a T ns H14 ∧ Kp r T H13 H14 ∧ ∃ acc rs, H14 D2 = some (.lst acc) ∧ Prs H14 acc rs ∧ rs.Sublist ((allRel n).take i)) ⟨e13.same (same_upd nD2), .same (same_upd nD2), [], [], upd_same, .nil, List.nil_sublist _⟩ (fun i H14 _ h14 => SqL.of (h14.2.1 _ _ pr pT hos)) (fun i y H14 hy h14 => ?_) (fun H14 h14 => ?_)
    · obtain ⟨e14, k14, acc, rs, hD14, hA14, hsub⟩ := h14
      obtain ⟨ry, hry, ty, rfl, hty⟩ := Prs.get' hop hy
      refine ⟨rfl, .ref r, rfl, r, a, 2, ns, rfl, by decide, by decide, e14.row, e14.scr, fun H15 dd bt ra hdd => ?_⟩
      have e15 := e14.but bt ra
      have k15 := k14.trans (.but bt)
      have hD15 := (bt D2 D2r).trans hD14
      have hA15 := e14.prs (.but bt) hA14
      refine ⟨rfl, _, rfl, ite2 (fun e => ?_) (fun e => ?_)⟩
      · have hlen : acc.length ≤ 15 := by
          have z1 := hsub.length_le
          rw [List.length_take] at z1
          rw [hA14.length]
          omega
        have hty15 : H15 ty = some (.tup [.int ry.1, .int ry.2]) := k15 _ _ (e13.neR hty) (e13.neT hty fun _ q => by cases q) hty
        refine ⟨.ref ty, rfl, acc, hD15, small64' (by omega), e15.updD hD15 D2r fD2, k15.updD nD2, acc ++ [.ref ty], rs ++ [ry], upd_same, Prs.updL hD15 (Prs.append hA15 (.cons ⟨ty, rfl, hty15⟩ .nil)), ?_⟩
        rw [take_succ_get hry]
        exact hsub.append (List.Sublist.refl _)
      · refine ⟨e15, k15, acc, rs, hD15, hA15, ?_⟩
        rw [take_succ_get hry]
        exact hsub.trans (List.sublist_append_left _ _)
    obtain ⟨e14, k14, acc, rs5, hD14, hA14, hsub⟩ := h14
    rw [hop.length, List.take_length] at hsub
    have ST := e13.neT hS13 (fun _ q => by cases q)
    have hS14 := k14 _ _ Sr ST hS13
    refine ⟨S, _, .ref D2, rfl, rfl, hS14, small64' (by rw [List.length_map, hql]; decide), ?_⟩
    have hS15 : (L2.upd H14 S (.lst (qs.map V.ref ++ [.ref D2]))) S = some (.lst ((qs ++ [D2]).map V.ref)) := by
      rw [upd_same, List.map_append]
      rfl
    have e15 := e14.updD (o := .lst (qs.map V.ref ++ [.ref D2])) hS14 Sr fS
    have hset15 : ∀ u ∈ qs ++ [D2], u ≠ r ∧ SetOk n (L2.upd H14 S (.lst (qs.map V.ref ++ [.ref D2]))) u := by
      intro u hu
      rcases List.mem_append.mp hu with h | h
      · obtain ⟨ur, uS, ok⟩ := hset12 u h
        exact ⟨ur, SetOk.updL hS14 uS (SetOk.kp e12 ((Kp.same sm13).trans k14) ur ok)⟩
      · rw [List.mem_singleton.mp h]
        exact ⟨D2r, SetOk.updL hS14 D2S ⟨rs5, ⟨acc, hD14, hA14⟩, valid_sub (valid_all hn) hsub, by have := hsub.length_le; omega⟩⟩
    have hb15 : LstR (L2.upd H14 S (.lst (qs.map V.ref ++ [.ref D2]))) b (onF l) := LstR.updL hS14 (hset12 b hbq).2.1 (e12.lst ((Kp.same sm13).trans k14) br hb12)
    clear hqs hset12 hb12 hp12 hp13 hos hop hS13 hS14 hD14 hA14 hsub k14 e14 e13 e12 sm13 fD2 fS nD2 nS
    generalize hqs : qs ++ [D2] = us at hS15 hset15
    have hul : us.length = 6 := by rw [← hqs, List.length_append, hql]; rfl
    clear hqs hql hbq
    generalize L2.upd H14 S (.lst (qs.map V.ref ++ [.ref D2])) = H15 at hS15 hset15 hb15 e15 ⊢
    -- the table
    refine ⟨.int n, rfl, n, rfl, h5, fun H18 m ms' sm18 nm pm hm => ⟨m, rfl, ⟨_, SqL.of hm⟩, fun D3 nD3 => ?_⟩⟩
    have e18 := e15.same sm18
    have mr' := e15.new nm
    have mT := e18.neT hm (fun _ q => by cases q)
    have fD3 := fresh_scr nD3 e18.scr
    have D3r := e18.new nD3
    have hml : ms'.length ≤ 32 := by
      rw [pm.length_eq, lawAll_len]
      exact Nat.pow_le_pow_right (n := 2) (by decide) h5
    refine it_list (K := K) (a := m) (xs := ms'.map strV) (fun i H19 => Env3 K r a T ns H19 ∧ Kp r T H18 H19 ∧ ∃ ps, H19 D3 = some (.lst (ps.map V.ref)) ∧ Paired (PrK H19) ps ((ms'.take i).map fun mm => (onF mm, strV mm))) ⟨e18.same (same_upd nD3), .same (same_upd nD3), [], upd_same, .nil⟩ (fun i H19 _ h19 => SqL.of (h19.2.1 _ _ mr' mT hm)) (fun i y H19 hy h19 => ?_) (fun H19 h19 => ?_)
    · obtain ⟨e19, k19, ps, hD19, hp19⟩ := h19
      rw [List.getElem?_map] at hy
      cases hmm : ms'[i]? with
      | none => rw [hmm] at hy; cases hy
      | some mm =>
        rw [hmm] at hy
        cases hy
        have hmem : mm ∈ allMem n := (pm.trans (f_law n hn)).mem_iff.mp (List.mem_of_getElem? hmm)
        obtain ⟨w1, w2⟩ := mem_allMem.mp hmem
        refine ⟨rfl, tYes_if ⟨strV mm, rfl, mm, rfl, ⟨by omega, by omega, w2⟩, e19.tab, fun H20 t smT tg tup => ⟨strV mm, rfl, by show 2 ≤ sizeLine; decide, fun z nz => ?_⟩⟩⟩
        have D3T := e19.neT hD19 (fun _ q => by cases q)
        have hD20 := smT _ _ D3T hD19
        have zD : D3 ≠ z := ne_of_none hD20 nz
        have e20 := e19.sameT smT tg
        have smz := same_upd (o := .tup [.ref t, strV mm]) nz
        have e21 := e20.same smz
        have hD21 := smz _ _ hD20
        have hp21 := prk_same smz (e19.prk (.sameT smT) hp19)
        have hpl : ps.length ≤ 32 := by
          have := Paired.length hp19
          rw [List.length_map, List.length_take] at this
          omega
        refine ⟨_, hD21, by rw [List.length_map]; exact small64' (by omega), e21.updD hD21 D3r fD3, ((k19.trans (.sameT smT)).trans (.same smz)).updD nD3, ps ++ [z], by rw [upd_same, List.map_append]; rfl, ?_⟩
        rw [take_succ_get hmm, List.map_append]
        exact prk_upd hD21 (paired_app hp21 (.cons ⟨t, upd_same, tup.same smz⟩ .nil))
    obtain ⟨e19, k19, ps, hD19, hp19⟩ := h19
    rw [List.length_map, List.take_length] at hp19
    refine ⟨D3, ps, ms'.map fun mm => (onF mm, strV mm), rfl, hD19, hp19, ?_, fun dd H20 sm20 ndd dic => ?_⟩
    · rw [List.map_map]
      exact keys_nodup hn pm
    have ST15 := e15.neT hS15 (fun _ q => by cases q)
    have kAll := ((Kp.same (r := r) (T := T) sm18).trans k19).trans (.same sm20)
    have hS20 := kAll _ _ Sr ST15 hS15
    have hset20 : ∀ u ∈ us, SetOk n H20 u := fun u hu => SetOk.kp e15 kAll (hset15 u hu).1 (hset15 u hu).2
    have hb20 := e15.lst kAll br hb15
    clear hS15 hset15 hb15 kAll hD19 hp19 k19 e19 e18 e15 hm nm fD3 nD3 sm18 sm20
    -- len
    refine ⟨.ref dd, rfl, dd, _, rfl, dic, .int n, rfl, n, rfl, h5, fun H21 m2 ms2 sm21 nm2 pm2 hm2 => ⟨m2, _, rfl, .inl (SqL.of hm2), rfl, _, rfl, iteNS ?_ ?_⟩⟩
    · rw [List.length_map, List.length_map, pm.length_eq, pm2.length_eq]
    have hS21 := sm21 _ _ hS20
    have hset21 : ∀ u ∈ us, SetOk n H21 u := fun u hu => (hset20 u hu).same sm21
    have hb21 := hb20.same sm21
    have dic21 := dic_same sm21 dic
    clear hS20 hset20 hb20 dic sm21 nm2 pm2 hm2
    -- the sets, one by one
    refine ⟨.ref S, rfl, S, rfl, ⟨_, SqL.of hS21⟩, ?_⟩
    refine for_list (K := K) (a := S) (xs := us.map V.ref) (fun i σ H22 => ∃ y7, σ = [some (.ref a), some (.ref r), some (.int n), some (.ref p), some (strV l), some (.ref b), some (.int at_), y7, some (.ref S), some (.ref dd), none] ∧ Same H21 H22) ⟨none, rfl, Same.refl _⟩ (fun i σ H22 _ hP => ?_) (fun i y σ H22 hy hP => ?_) (fun σ H22 hP => ?_)
    · obtain ⟨_, _, sm⟩ := hP
      exact SqL.of (sm _ _ hS21)
    · obtain ⟨y7, rfl, sm22⟩ := hP
      rw [List.getElem?_map] at hy
      cases hu : us[i]? with
      | none => rw [hu] at hy; cases hy
      | some u =>
        rw [hu] at hy
        cases hy
        obtain ⟨rs, ⟨xs, hxs, hps⟩, hv, hrl⟩ := (hset21 u (List.mem_of_getElem? hu)).same sm22
        refine ⟨.int n, rfl, .ref u, rfl, u, xs, rfl, .inl ⟨SqL.of hxs, fun t1 nt1 => ?_⟩⟩
        have smA := same_upd (o := .tup xs) nt1
        refine ⟨n, t1, rs, rfl, ⟨xs, upd_same, Prs.same smA hps⟩, hv, hn, hrl, fun H24 sm24 => ?_⟩
        have smB := smA.trans sm24
        have dic24 := dic_same (sm22.trans smB) dic21
        have hps24 := Prs.same smB hps
        obtain ⟨_, k2⟩ := kH_all hps24
        refine ⟨.ref dd, rfl, dd, rfl, ⟨_, dic24⟩, .ref u, rfl, u, xs, kH H24, rfl, SqL.of (smB _ _ hxs), k2, fun ys o hsd hsb no => ⟨o, ys, rfl, .inl ⟨SqL.of upd_same, fun t2 nt2 => ?_⟩⟩⟩
        obtain ⟨ss, hss, hsrt, hperm⟩ := sorted_prs hps24 hsd hsb
        have smC := (same_upd (o := .lst ys) no).trans (same_upd (o := .tup ys) nt2)
        refine ⟨t2, _, ss, rfl, dic_same smC dic24, ⟨ys, upd_same, Prs.same smC hss⟩, optV (foundF n rs), ?_, ?_, fun H27 sm27 => ⟨true, rfl, iteF ⟨_, rfl, ((sm22.trans smB).trans smC).trans sm27⟩⟩⟩
        · rw [lookR_map hn pm hsrt hperm]
          rfl
        · cases foundF n rs with
          | none => exact .inl rfl
          | some mm => exact .inr ⟨mkS mm, rfl⟩
    · obtain ⟨y7, rfl, sm22⟩ := hP
      obtain ⟨bs', hbs', hbp'⟩ := hb21.same sm22
      refine ⟨.int n, rfl, .ref b, rfl, b, bs', rfl, .inl ⟨SqL.of hbs', fun t nt => ?_⟩⟩
      have smA := same_upd (o := .tup bs') nt
      refine ⟨n, t, onF l, rfl, ⟨bs', upd_same, Prs.same smA hbp'⟩, hvb, hn, by omega, fun H24 sm24 => ?_⟩
      rw [found_self hn hlm]
      refine ⟨strV l, rfl, rfl, ?_⟩
      have z := q H24
      rw [← decide_eq_true (p := optV (some l) = strV l) rfl] at z
      exact z
end
end K03

set_option Elab.async false
set_option linter.all false
set_option maxRecDepth 100000
set_option maxHeartbeats 4400000
namespace K03
open L2 PySem PySem.Spec PyProof.Rows
/-- the end: a promise for the law's def, made of all that holds at the top (its names, its builtins, its tables), is the walk over the row -/
theorem walk_ofTop {l : PySem.W.OpenLaw} {q : Program} {d : DefRec} {loose : List Str} {x : Str} {K : Params → PySem.W.Frag} {XP : (Str → Option Value) → Heap → Prop} {YP : World → Heap → Prop}
    (most : l.most = some 63) (plain : d.params.defaults = []) (kit : ∀ w h, YP w h → (K w.params).In h)
    (promise : ∀ w mean mg mb fa h, (K w.params).In h → PyProof.Rows.Top q (PySem.W.looseW q loose) mean mg mb h → mg d.name = some (.ref fa) → LamX.LawAtS l w (K w.params) CX0 5 63 x mg fa h) :
    PySem.W.WalkO q loose XP YP l.row.toRowW d [] fun f vs => PySem.call f vs :=
  Att.attach_callB most plain fun w _ _ mg mb fa _ _ _ _ a _ ns G Y _ _ _ isLaw script nums len bits gens =>
    let ⟨_, _, _, tabs, free, heads, binds, spec, ok⟩ := promise w _ mg mb fa _ (kit w _ Y) G.T isLaw
    LamX.law_callTs (kit w _ Y) G.T.g G.T.b G.T.builtins G.T.nolimit gens tabs free heads G.T.bmain script nums (Nat.le_trans len (by decide)) ⟨rfl, by decide, by decide⟩ ok binds (fun H => spec H a ns len bits) fun _ _ _ no => no

theorem all_mk {l : PySem.W.OpenLaw} {w : World} {K : PySem.W.Frag} {h : Heap} {mg : Str → Option Value} {fa f1 f2 f3 f4 f5 f6 f7 f8 f9 f10 f11 f12 f13 f14 f15 f16 f17 f18 f19 c2 T : Addr} (X : K.In h) (G : h.Ns mainGlobals mg) (hfa : mg "law" = some (.ref fa))
    {od1 an1 od2 an2 od3 an3 od4 an4 od5 an5 od6 an6 od7 an7 od8 an8 od9 an9 od10 an10 od11 an11 od12 an12 od13 an13 od14 an14 od15 an15 od16 an16 od17 an17 od18 an18 od19 an19 : Option Addr} {sl1 sl2 sl3 sl4 sl5 sl6 sl7 sl8 sl9 sl10 sl11 sl12 sl13 sl14 sl15 sl16 sl17 sl18 sl19 : Array (Option Value)} {oc1 kV1 dc1 pm1 cd1 ct1 oc2 kV2 dc2 pm2 ct2 oc3 kV3 dc3 pm3 cd3 ct3 oc4 kV4 dc4 pm4 cd4 ct4 oc5 kV5 dc5 pm5 cd5 ct5 oc6 kV6 dc6 pm6 cd6 ct6 oc7 kV7 dc7 pm7 cd7 ct7 oc8 kV8 dc8 pm8 cd8 ct8 oc9 kV9 dc9 pm9 cd9 ct9 oc10 kV10 dc10 pm10 cd10 ct10 oc11 kV11 dc11 pm11 cd11 ct11 oc12 kV12 dc12 pm12 cd12 ct12 oc13 kV13 dc13 pm13 cd13 ct13 oc14 kV14 dc14 pm14 cd14 ct14 oc15 kV15 dc15 pm15 cd15 ct15 oc16 kV16 dc16 pm16 cd16 ct16 oc17 kV17 dc17 pm17 cd17 ct17 oc18 kV18 dc18 pm18 cd18 ct18 oc19 kV19 dc19 pm19 cd19 ct19 : Value}
    (a1 : PySem.W.nsIn K mainGlobals "is_in" = some (some (.ref f1))) (l1 : K.lookup f1 = some ⟨oc1, od1, .func (PySem.W.fnOf "is_in" "is_in" (defArgs sIsIn) (defBody sIsIn) (defScope sIsIn) .none kV1 dc1 pm1 an1 cd1 ct1), sl1⟩) (c1_ : PySem.W.codeIn K cd1 "is_in" = true) (k1 : PySem.W.keepIn K (.ref f1) = true)
    (a2 : PySem.W.nsIn K mainGlobals "is_memory" = some (some (.ref f2))) (l2 : K.lookup f2 = some ⟨oc2, od2, .func (PySem.W.fnOf "is_memory" "is_memory" (defArgs sIsMem) (defBody sIsMem) (defScope sIsMem) .none kV2 dc2 pm2 an2 (.ref c2) ct2), sl2⟩) (c2_ : PySem.W.codeIn K (.ref c2) "is_memory" = true) (k2 : PySem.W.keepIn K (.ref f2) = true)
    (a3 : PySem.W.nsIn K mainGlobals "need_memory" = some (some (.ref f3))) (l3 : K.lookup f3 = some ⟨oc3, od3, .func (PySem.W.fnOf "need_memory" "need_memory" (defArgs sNeedMem) (defBody sNeedMem) (defScope sNeedMem) .none kV3 dc3 pm3 an3 cd3 ct3), sl3⟩) (c3_ : PySem.W.codeIn K cd3 "need_memory" = true) (k3 : PySem.W.keepIn K (.ref f3) = true)
    (a4 : PySem.W.nsIn K mainGlobals "need_span" = some (some (.ref f4))) (l4 : K.lookup f4 = some ⟨oc4, od4, .func (PySem.W.fnOf "need_span" "need_span" (defArgs sNeedSpan) (defBody sNeedSpan) (defScope sNeedSpan) .none kV4 dc4 pm4 an4 cd4 ct4), sl4⟩) (c4_ : PySem.W.codeIn K cd4 "need_span" = true) (k4 : PySem.W.keepIn K (.ref f4) = true)
    (a5 : PySem.W.nsIn K mainGlobals "all_memories" = some (some (.ref f5))) (l5 : K.lookup f5 = some ⟨oc5, od5, .func (PySem.W.fnOf "all_memories" "all_memories" (defArgs sAllMem) (defBody sAllMem) (defScope sAllMem) .none kV5 dc5 pm5 an5 cd5 ct5), sl5⟩) (c5_ : PySem.W.codeIn K cd5 "all_memories" = true) (k5 : PySem.W.keepIn K (.ref f5) = true)
    (a6 : PySem.W.nsIn K mainGlobals "is_relay" = some (some (.ref f6))) (l6 : K.lookup f6 = some ⟨oc6, od6, .func (PySem.W.fnOf "is_relay" "is_relay" (defArgs sIsRel) (defBody sIsRel) (defScope sIsRel) .none kV6 dc6 pm6 an6 cd6 ct6), sl6⟩) (c6_ : PySem.W.codeIn K cd6 "is_relay" = true) (k6 : PySem.W.keepIn K (.ref f6) = true)
    (a7 : PySem.W.nsIn K mainGlobals "all_relays" = some (some (.ref f7))) (l7 : K.lookup f7 = some ⟨oc7, od7, .func (PySem.W.fnOf "all_relays" "all_relays" (defArgs sAllRel) (defBody sAllRel) (defScope sAllRel) .none kV7 dc7 pm7 an7 cd7 ct7), sl7⟩) (c7_ : PySem.W.codeIn K cd7 "all_relays" = true) (k7 : PySem.W.keepIn K (.ref f7) = true)
    (a8 : PySem.W.nsIn K mainGlobals "place" = some (some (.ref f8))) (l8 : K.lookup f8 = some ⟨oc8, od8, .func (PySem.W.fnOf "place" "place" (defArgs sPlace) (defBody sPlace) (defScope sPlace) .none kV8 dc8 pm8 an8 cd8 ct8), sl8⟩) (c8_ : PySem.W.codeIn K cd8 "place" = true) (k8 : PySem.W.keepIn K (.ref f8) = true)
    (a9 : PySem.W.nsIn K mainGlobals "holds" = some (some (.ref f9))) (l9 : K.lookup f9 = some ⟨oc9, od9, .func (PySem.W.fnOf "holds" "holds" (defArgs sHolds) (defBody sHolds) (defScope sHolds) .none kV9 dc9 pm9 an9 cd9 ct9), sl9⟩) (c9_ : PySem.W.codeIn K cd9 "holds" = true) (k9 : PySem.W.keepIn K (.ref f9) = true)
    (a10 : PySem.W.nsIn K mainGlobals "on_in" = some (some (.ref f10))) (l10 : K.lookup f10 = some ⟨oc10, od10, .func (PySem.W.fnOf "on_in" "on_in" (defArgs sOnIn) (defBody sOnIn) (defScope sOnIn) .none kV10 dc10 pm10 an10 cd10 ct10), sl10⟩) (c10_ : PySem.W.codeIn K cd10 "on_in" = true) (k10 : PySem.W.keepIn K (.ref f10) = true)
    (a11 : PySem.W.nsIn K mainGlobals "relays_on" = some (some (.ref f11))) (l11 : K.lookup f11 = some ⟨oc11, od11, .func (PySem.W.fnOf "relays_on" "relays_on" (defArgs sRelOn) (defBody sRelOn) (defScope sRelOn) .none kV11 dc11 pm11 an11 cd11 ct11), sl11⟩) (c11_ : PySem.W.codeIn K cd11 "relays_on" = true) (k11 : PySem.W.keepIn K (.ref f11) = true)
    (a12 : PySem.W.nsIn K mainGlobals "need_relays" = some (some (.ref f12))) (l12 : K.lookup f12 = some ⟨oc12, od12, .func (PySem.W.fnOf "need_relays" "need_relays" (defArgs sNeedRel) (defBody sNeedRel) (defScope sNeedRel) .none kV12 dc12 pm12 an12 cd12 ct12), sl12⟩) (c12_ : PySem.W.codeIn K cd12 "need_relays" = true) (k12 : PySem.W.keepIn K (.ref f12) = true)
    (a13 : PySem.W.nsIn K mainGlobals "memory_of" = some (some (.ref f13))) (l13 : K.lookup f13 = some ⟨oc13, od13, .func (PySem.W.fnOf "memory_of" "memory_of" (defArgs sMemOf) (defBody sMemOf) (defScope sMemOf) .none kV13 dc13 pm13 an13 cd13 ct13), sl13⟩) (c13_ : PySem.W.codeIn K cd13 "memory_of" = true) (k13 : PySem.W.keepIn K (.ref f13) = true)
    (a14 : PySem.W.nsIn K mainGlobals "_law_taken" = some (some (.ref f14))) (l14 : K.lookup f14 = some ⟨oc14, od14, .func (PySem.W.fnOf "_law_taken" "_law_taken" (defArgs sTaken) (defBody sTaken) (defScope sTaken) .none kV14 dc14 pm14 an14 cd14 ct14), sl14⟩) (c14_ : PySem.W.codeIn K cd14 "_law_taken" = true) (k14 : PySem.W.keepIn K (.ref f14) = true)
    (a15 : PySem.W.nsIn K mainGlobals "_law_pick" = some (some (.ref f15))) (l15 : K.lookup f15 = some ⟨oc15, od15, .func (PySem.W.fnOf "_law_pick" "_law_pick" (defArgs sPick) (defBody sPick) (defScope sPick) .none kV15 dc15 pm15 an15 cd15 ct15), sl15⟩) (c15_ : PySem.W.codeIn K cd15 "_law_pick" = true) (k15 : PySem.W.keepIn K (.ref f15) = true)
    (a16 : PySem.W.nsIn K mainGlobals "_law_alike" = some (some (.ref f16))) (l16 : K.lookup f16 = some ⟨oc16, od16, .func (PySem.W.fnOf "_law_alike" "_law_alike" (defArgs sAlike) (defBody sAlike) (defScope sAlike) .none kV16 dc16 pm16 an16 cd16 ct16), sl16⟩) (c16_ : PySem.W.codeIn K cd16 "_law_alike" = true) (k16 : PySem.W.keepIn K (.ref f16) = true)
    (a17 : PySem.W.nsIn K mainGlobals "_law_all" = some (some (.ref f17))) (l17 : K.lookup f17 = some ⟨oc17, od17, .func (PySem.W.fnOf "_law_all" "_law_all" (defArgs sLawAll) (defBody sLawAll) (defScope sLawAll) .none kV17 dc17 pm17 an17 cd17 ct17), sl17⟩) (c17_ : PySem.W.codeIn K cd17 "_law_all" = true) (k17 : PySem.W.keepIn K (.ref f17) = true)
    (a18 : PySem.W.nsIn K mainGlobals "_law_relays" = some (some (.ref f18))) (l18 : K.lookup f18 = some ⟨oc18, od18, .func (PySem.W.fnOf "_law_relays" "_law_relays" (defArgs sLawRel) (defBody sLawRel) (defScope sLawRel) .none kV18 dc18 pm18 an18 cd18 ct18), sl18⟩) (c18_ : PySem.W.codeIn K cd18 "_law_relays" = true) (k18 : PySem.W.keepIn K (.ref f18) = true)
    (a19 : PySem.W.nsIn K mainGlobals "law" = some (some (.ref f19))) (l19 : K.lookup f19 = some ⟨oc19, od19, .func (PySem.W.fnOf "law" "law" (defArgs sLaw) (defBody sLaw) (defScope sLaw) .none kV19 dc19 pm19 an19 cd19 ct19), sl19⟩) (c19_ : PySem.W.codeIn K cd19 "law" = true) (k19 : PySem.W.keepIn K (.ref f19) = true)
    (z1 : PySem.W.nsIn K mainGlobals "isinstance" = some none) (z2 : PySem.W.nsIn K mainGlobals "int" = some none) (z3 : PySem.W.nsIn K mainGlobals "bool" = some none) (z4 : PySem.W.nsIn K mainGlobals "str" = some none) (z5 : PySem.W.nsIn K mainGlobals "len" = some none) (z6 : PySem.W.nsIn K mainGlobals "all" = some none) (z7 : PySem.W.nsIn K mainGlobals "tuple" = some none) (z8 : PySem.W.nsIn K mainGlobals "range" = some none) (z9 : PySem.W.nsIn K mainGlobals "enumerate" = some none) (z10 : PySem.W.nsIn K mainGlobals "sorted" = some none) (z11 : PySem.W.nsIn K mainGlobals "list" = some none) (z12 : PySem.W.nsIn K mainGlobals "dict" = some none)
    {t9 : Tok} (m9 : PySem.W.nsIn K mainGlobals "MOST_SPAN" = some (some (.int 9 t9)))
    {occ : Value} {odc : Option Addr} {vsc : Array Value} {slc : Array (Option Value)} (lc : K.lookup c2 = some ⟨occ, odc, .fields vsc, slc⟩) (hv : vsc[11]? = some (.ref T))
    (nT : K.lookup T = none) (hTC : PySem.W.CodeHd h c2 T ∧ h.get? T = some { cls := .none, data := .fields #[] }) : LamX.LawAtS l w K CX0 5 63 "_law_script" mg fa h := by
  obtain ⟨hC, hT⟩ := hTC
  have e := hfa.symm.trans (PySem.W.mg_of X G a19)
  cases e
  have F1 := fun_mk (st := sIsIn) l1 c1_ k1
  have b1 := F1.binds (ps := ["value", "least", "most"]) fun _ _ _ _ _ _ us hl => match us, hl with | [_, _, _], _ => rfl
  have g1 := PySem.W.mg_of X G a1
  have F2 := fun_mk (st := sIsMem) l2 c2_ k2
  have b2 := F2.binds (ps := ["value"]) fun _ _ _ _ _ _ us hl => match us, hl with | [_], _ => rfl
  have g2 := PySem.W.mg_of X G a2
  have F3 := fun_mk (st := sNeedMem) l3 c3_ k3
  have b3 := F3.binds (ps := ["memory"]) fun _ _ _ _ _ _ us hl => match us, hl with | [_], _ => rfl
  have g3 := PySem.W.mg_of X G a3
  have F4 := fun_mk (st := sNeedSpan) l4 c4_ k4
  have b4 := F4.binds (ps := ["span"]) fun _ _ _ _ _ _ us hl => match us, hl with | [_], _ => rfl
  have g4 := PySem.W.mg_of X G a4
  have F5 := fun_mk (st := sAllMem) l5 c5_ k5
  have b5 := F5.binds (ps := ["span"]) fun _ _ _ _ _ _ us hl => match us, hl with | [_], _ => rfl
  have g5 := PySem.W.mg_of X G a5
  have F6 := fun_mk (st := sIsRel) l6 c6_ k6
  have b6 := F6.binds (ps := ["span", "value"]) fun _ _ _ _ _ _ us hl => match us, hl with | [_, _], _ => rfl
  have g6 := PySem.W.mg_of X G a6
  have F7 := fun_mk (st := sAllRel) l7 c7_ k7
  have b7 := F7.binds (ps := ["span"]) fun _ _ _ _ _ _ us hl => match us, hl with | [_], _ => rfl
  have g7 := PySem.W.mg_of X G a7
  have F8 := fun_mk (st := sPlace) l8 c8_ k8
  have b8 := F8.binds (ps := ["memory", "sign", "number"]) fun _ _ _ _ _ _ us hl => match us, hl with | [_, _, _], _ => rfl
  have g8 := PySem.W.mg_of X G a8
  have F9 := fun_mk (st := sHolds) l9 c9_ k9
  have b9 := F9.binds (ps := ["memory", "relay"]) fun _ _ _ _ _ _ us hl => match us, hl with | [_, _], _ => rfl
  have g9 := PySem.W.mg_of X G a9
  have F10 := fun_mk (st := sOnIn) l10 c10_ k10
  have b10 := F10.binds (ps := ["memory"]) fun _ _ _ _ _ _ us hl => match us, hl with | [_], _ => rfl
  have g10 := PySem.W.mg_of X G a10
  have F11 := fun_mk (st := sRelOn) l11 c11_ k11
  have b11 := F11.binds (ps := ["memory"]) fun _ _ _ _ _ _ us hl => match us, hl with | [_], _ => rfl
  have g11 := PySem.W.mg_of X G a11
  have F12 := fun_mk (st := sNeedRel) l12 c12_ k12
  have b12 := F12.binds (ps := ["span", "relays"]) fun _ _ _ _ _ _ us hl => match us, hl with | [_, _], _ => rfl
  have g12 := PySem.W.mg_of X G a12
  have F13 := fun_mk (st := sMemOf) l13 c13_ k13
  have b13 := F13.binds (ps := ["span", "relays"]) fun _ _ _ _ _ _ us hl => match us, hl with | [_, _], _ => rfl
  have g13 := PySem.W.mg_of X G a13
  have F14 := fun_mk (st := sTaken) l14 c14_ k14
  have b14 := F14.binds (ps := ["_law_row", "_law_many"]) fun _ _ _ _ _ _ us hl => match us, hl with | [_, _], _ => rfl
  have g14 := PySem.W.mg_of X G a14
  have F15 := fun_mk (st := sPick) l15 c15_ k15
  have b15 := F15.binds (ps := ["_law_row", "_law_things"]) fun _ _ _ _ _ _ us hl => match us, hl with | [_, _], _ => rfl
  have g15 := PySem.W.mg_of X G a15
  have F16 := fun_mk (st := sAlike) l16 c16_ k16
  have b16 := F16.binds (ps := ["_law_found", "_law_due"]) fun _ _ _ _ _ _ us hl => match us, hl with | [_, _], _ => rfl
  have g16 := PySem.W.mg_of X G a16
  have F17 := fun_mk (st := sLawAll) l17 c17_ k17
  have b17 := F17.binds (ps := ["_law_span"]) fun _ _ _ _ _ _ us hl => match us, hl with | [_], _ => rfl
  have g17 := PySem.W.mg_of X G a17
  have F18 := fun_mk (st := sLawRel) l18 c18_ k18
  have b18 := F18.binds (ps := ["_law_span"]) fun _ _ _ _ _ _ us hl => match us, hl with | [_], _ => rfl
  have g18 := PySem.W.mg_of X G a18
  have F19 := fun_mk (st := sLaw) l19 c19_ k19
  have n_isinstance := PySem.W.mg_none_of X G z1
  have n_int := PySem.W.mg_none_of X G z2
  have n_bool := PySem.W.mg_none_of X G z3
  have n_str := PySem.W.mg_none_of X G z4
  have n_len := PySem.W.mg_none_of X G z5
  have n_all := PySem.W.mg_none_of X G z6
  have n_tuple := PySem.W.mg_none_of X G z7
  have n_range := PySem.W.mg_none_of X G z8
  have n_enumerate := PySem.W.mg_none_of X G z9
  have n_sorted := PySem.W.mg_none_of X G z10
  have n_list := PySem.W.mg_none_of X G z11
  have n_dict := PySem.W.mg_none_of X G z12
  have m9g := PySem.W.mg_of X G m9
  refine ⟨PySem.W.fnOf "law" "law" (defArgs sLaw) (defBody sLaw) (defScope sLaw) .none kV19 dc19 pm19 an19 cd19 ct19, [(c2, T)], spLaw K T, ?_, ?_, ?_, fun s v => .of_eq rfl, fun H a ns _ _ ht hS => ⟨a, ns, rfl, hS, ⟨#[], ht (c2, T) List.mem_cons_self, show TriplesOk [] from True.intro⟩, fun _ => rfl⟩, fun base _ _ TB => ?_⟩
  · intro p hp
    rw [List.mem_singleton.mp hp]
    exact hT
  · intro p hp
    rw [List.mem_singleton.mp hp]
    exact nT
  · intro p hp
    rw [List.mem_singleton.mp hp]
    exact hC
  · have tb0 := TB (c2, T) List.mem_cons_self
    have tb : GxR.TabB base mg c2 T := ⟨tb0.code, tb0.bm, tb0.gP⟩
    have G1 : FnOk l.prog w K mg base CX0 1 f1 _ ["value", "least", "most"] spIsIn := ok_isIn F1 n_isinstance n_int n_bool
    have G2 : FnOk l.prog w K mg base CX0 1 f2 _ ["value"] (spIsMem T) := ok_isMem F2 rfl tb n_isinstance n_str n_len n_all m9g
    have G3 : FnOk l.prog w K mg base CX0 2 f3 _ ["memory"] (spNeedMem T) := ok_needMem F3 F2 b2 g2 G2
    have G4 : FnOk l.prog w K mg base CX0 2 f4 _ ["span"] spNeedSpan := ok_needSpan F4 F1 b1 g1 G1 m9g
    have G5 : FnOk l.prog w K mg base CX0 1 f5 _ ["span"] spAllMem := ok_allMem F5 n_range
    have G6 : FnOk l.prog w K mg base CX0 2 f6 _ ["span", "value"] spIsRel := ok_isRel F6 F1 b1 g1 G1 n_isinstance n_tuple n_len
    have G7 : FnOk l.prog w K mg base CX0 1 f7 _ ["span"] spAllRel := ok_allRel F7 n_range
    have G8 : FnOk l.prog w K mg base CX0 1 f8 _ ["memory", "sign", "number"] spPlace := ok_place F8 n_enumerate n_len
    have G9 : FnOk l.prog w K mg base CX0 2 f9 _ ["memory", "relay"] spHolds := ok_holds F9 F8 b8 g8 G8 n_len
    have G10 : FnOk l.prog w K mg base CX0 3 f10 _ ["memory"] spOnIn := ok_onIn F10 F9 b9 g9 F7 b7 g7 G9 G7 n_len
    have G11 : FnOk l.prog w K mg base CX0 4 f11 _ ["memory"] (spRelOn T) := ok_relOn F11 F3 b3 g3 F10 b10 g10 G3 G10 n_tuple
    have G12 : FnOk l.prog w K mg base CX0 3 f12 _ ["span", "relays"] spNeedRel := ok_needRel F12 F6 b6 g6 G6 n_isinstance n_tuple n_enumerate
    have G13 : FnOk l.prog w K mg base CX0 4 f13 _ ["span", "relays"] spMemOf := ok_memOf F13 F4 b4 g4 G4 F12 b12 g12 G12 F5 b5 g5 G5 F10 b10 g10 G10 n_sorted
    have G14 : FnOk l.prog w K mg base CX0 1 f14 _ ["_law_row", "_law_many"] (spTaken K) := ok_taken F14 n_int n_len
    have G15 : FnOk l.prog w K mg base CX0 2 f15 _ ["_law_row", "_law_things"] (spPick K) := ok_pick F15 F14 b14 g14 G14 n_len
    have G16 : FnOk l.prog w K mg base CX0 1 f16 _ ["_law_found", "_law_due"] spAlike := ok_alike F16 n_isinstance n_tuple n_list n_str
    have G17 : FnOk l.prog w K mg base CX0 1 f17 _ ["_law_span"] spLawAll := ok_lawAll F17 n_range n_sorted
    have G18 : FnOk l.prog w K mg base CX0 1 f18 _ ["_law_span"] spAllRel := ok_lawRel F18 n_range
    exact ok_law F19 F14 b14 g14 G14 F15 b15 g15 G15 F18 b18 g18 G18 F11 b11 g11 G11 F17 b17 g17 G17 F16 b16 g16 G16 F13 b13 g13 G13 n_range n_list n_len n_int n_dict n_tuple n_sorted
end K03

set_option Elab.async false
set_option linter.all false
set_option maxRecDepth 100000
open PyProof.Rows PySem PySem.W
set_option maxHeartbeats 0 in
theorem PySem.Challenge.cw_relaybanks_k03_whole_memories_of_relays_holds : PySem.Challenge.rw_relaybanks_k03_whole_memories_of_relays.Holds := by
  w_on
  o_law
  k_head
  case hw => w_witness2
  k_fill
  refine K03.walk_ofTop (l := PySem.Challenge.rw_relaybanks_k03_whole_memories_of_relays) (x := "_law_script") rfl rfl (fun _ _ Y => PySem.W.kIn_of Y) ?F
  case F =>
    intro w mean mg mb fa h KX TP hmg
    refine' K03.all_mk KX TP.g hmg ?a1 ?l1 ?c1_ ?k1 ?a2 ?l2 ?c2_ ?k2 ?a3 ?l3 ?c3_ ?k3 ?a4 ?l4 ?c4_ ?k4 ?a5 ?l5 ?c5_ ?k5 ?a6 ?l6 ?c6_ ?k6 ?a7 ?l7 ?c7_ ?k7 ?a8 ?l8 ?c8_ ?k8 ?a9 ?l9 ?c9_ ?k9 ?a10 ?l10 ?c10_ ?k10 ?a11 ?l11 ?c11_ ?k11 ?a12 ?l12 ?c12_ ?k12 ?a13 ?l13 ?c13_ ?k13 ?a14 ?l14 ?c14_ ?k14 ?a15 ?l15 ?c15_ ?k15 ?a16 ?l16 ?c16_ ?k16 ?a17 ?l17 ?c17_ ?k17 ?a18 ?l18 ?c18_ ?k18 ?a19 ?l19 ?c19_ ?k19 ?z1 ?z2 ?z3 ?z4 ?z5 ?z6 ?z7 ?z8 ?z9 ?z10 ?z11 ?z12 ?m9 ?lc ?hv ?nT ?hTC
    (case a1 => k_is); (case l1 => k_is); (case c1_ => k_is); (case k1 => k_is); (case a2 => k_is); (case l2 => k_is); (case c2_ => k_is); (case k2 => k_is); (case a3 => k_is); (case l3 => k_is); (case c3_ => k_is); (case k3 => k_is); (case a4 => k_is); (case l4 => k_is); (case c4_ => k_is); (case k4 => k_is); (case a5 => k_is); (case l5 => k_is); (case c5_ => k_is); (case k5 => k_is); (case a6 => k_is); (case l6 => k_is); (case c6_ => k_is); (case k6 => k_is); (case a7 => k_is); (case l7 => k_is); (case c7_ => k_is); (case k7 => k_is); (case a8 => k_is); (case l8 => k_is); (case c8_ => k_is); (case k8 => k_is); (case a9 => k_is); (case l9 => k_is); (case c9_ => k_is); (case k9 => k_is); (case a10 => k_is); (case l10 => k_is); (case c10_ => k_is); (case k10 => k_is); (case a11 => k_is); (case l11 => k_is); (case c11_ => k_is); (case k11 => k_is); (case a12 => k_is); (case l12 => k_is); (case c12_ => k_is); (case k12 => k_is); (case a13 => k_is); (case l13 => k_is); (case c13_ => k_is); (case k13 => k_is); (case a14 => k_is); (case l14 => k_is); (case c14_ => k_is); (case k14 => k_is); (case a15 => k_is); (case l15 => k_is); (case c15_ => k_is); (case k15 => k_is); (case a16 => k_is); (case l16 => k_is); (case c16_ => k_is); (case k16 => k_is); (case a17 => k_is); (case l17 => k_is); (case c17_ => k_is); (case k17 => k_is); (case a18 => k_is); (case l18 => k_is); (case c18_ => k_is); (case k18 => k_is); (case a19 => k_is); (case l19 => k_is); (case c19_ => k_is); (case k19 => k_is); (case z1 => k_is); (case z2 => k_is); (case z3 => k_is); (case z4 => k_is); (case z5 => k_is); (case z6 => k_is); (case z7 => k_is); (case z8 => k_is); (case z9 => k_is); (case z10 => k_is); (case z11 => k_is); (case z12 => k_is); (case m9 => k_is); (case lc => k_is)
    (case hv => rfl)
    (case nT => kernel_rfl)
    (case hTC => exact PySem.W.tab_of (x := PySem.Str.ofString "is_memory") TP KX rfl (by kernel_rfl))
