import PyProof.Rows.All
import Wide.All
import OpenK.AllK
import Wide.FinOn
import HandS.ForMost
import HandS.TupSets
import HandS.TupMul
import HandS.TupAny
import HandS.IsInst
import HandS.Zip
import HandS.Walk
import KE.GoesEnum
import KE.KTupSum
import KE.GoesNew
import PySem.Challenge.RW_lastoflot_k78_whole_comers_by_kinds
import HandS.Codes
set_option Elab.async false
set_option linter.all false
set_option maxRecDepth 100000
set_option maxHeartbeats 8000000
/-! Rules that the layer lacks: tuple * k from 1 on, sum of a tuple, xs[i] read ahead of xs[i] op= e, enumerate(tuple), zip(tuple, list). -/
namespace MR
open L2 PySem PySem.Spec PyProof.Rows

/-! ### t * k, k from 1 on -/
theorem tuple_mul1 (l : Addr) (items : Array Value) (n : Nat) (dd : Option Addr) (sl : Array (Option Value)) (u : Tok) :
    Meets (Builtin.«tuple.__mul__» ⟨[.ref l, .int 1 u], []⟩) (fun _ R s => s.heap.get? l = some { cls := .type "tuple", dict := dd, data := .seq items n, slots := sl } ∧
      R (.ok (.ret (Value.ref l))) s) :=
  .of_wp fun _ _ _ R s h => by
    obtain ⟨hp, gl, dd, tk, files⟩ := s
    obtain ⟨hl, h⟩ := h
    have f1 := AutoSeq1.idx_int; have f2 := AutoSeq1.sub_tuple_tuple
    have c1 : (items.isEmpty || (1 : Int) == 1) = true := by simp
    (wp_walk using wpAny_loadPart' hl)
    repeat (first
      | (refine wpAny_ite_false (decide_eq_false (by decide)) ?_; wp_walk using wpAny_loadPart' hl)
      | (refine wpAny_ite_true (decide_eq_true (by rw [c1])) ?_; wp_walk using wpAny_loadPart' hl))
    exact ⟨_, rfl, h⟩

def rRepA (K : PySem.W.Frag) : R2 := fun x y H Q => ∃ l k xs, x = .ref l ∧ y = .int k ∧ SqT K H l xs ∧ xs ≠ [] ∧ 1 ≤ k ∧ k ≤ 1000 ∧ xs.length ≤ 1000 ∧
  ∀ v H', (∀ b o, H b = some o → H' b = some o) → (∃ p, v = .ref p ∧ SqT K H' p (List.replicate k.toNat xs).flatten) → Q v H'
section
variable {X : Cx}
theorem op_repA : OpR X (binaryOp .Mult) (rRepA X.K) := by
  intro ps s σ H x y v u Q I rx ry h
  obtain ⟨l, k, xs, rfl, rfl, hT, full, h1, h2, hz, q⟩ := h
  by_cases hk : k = 1
  · subst hk
    cases rx
    obtain ⟨t, rfl⟩ := ry
    have q1 : Q (.ref l) H := q _ _ (fun _ _ e => e) ⟨l, rfl, by simpa using hT⟩
    obtain ⟨its, r, ⟨⟨cl0, dd, dat, sl⟩, ho, hc, n, hd⟩, _⟩ := I.tuple hT
    simp only at hc hd
    subst hc hd
    exact wpAny_binaryOp_repeat_ref (T := "tuple") (U := "int") (by decide) ⟨_, ho, rfl⟩ (fun s' => typeIs_int s' 1 t) noFill_tuple_mul F.fills_int_mul F.slot_int_rmul repeat_tuple F.slot_int_index.lookup
      (call_meets F.slot_int_rmul (typeIs_int s 1 t) F.entry_int_rmul (F.args_int_rmul_2 _ _) (int_rmul_tuple 1 t l its.toArray n dd sl)
        ⟨ho, rfl, ⟨_, ho, rfl⟩, call_meets F.slot_tuple_mul ⟨_, ho, rfl⟩ F.entry_tuple_mul (F.args_tuple_mul_2 _ _) (tuple_mul1 l its.toArray n dd sl t) ⟨ho, ⟨.ref l, H, I, rfl, q1⟩⟩⟩)
  · refine op_repT ps s σ H _ _ v u Q I rx ry ⟨l, k, xs, rfl, rfl, hT, full, by omega, h2, hz, fun p hp => q _ _ (fun b o e => ?_) ⟨p, rfl, .inl (.inl upd_same)⟩⟩
    rw [upd_ne (ne_of_none e hp)]
    exact e
end

/-! ### sum(t) -/
section
variable {X : Cx}
def rSumT (K : PySem.W.Frag) : List V → Hp → VK → Prop := fun vs H Q => ∃ (a : Addr) (ns : List Int), vs = [V.ref a] ∧ SqT K H a (ns.map V.int) ∧ Q (.int ns.sum) H
theorem cr_sumT (hc : X.calm = true) : CallR X (.builtin "sum") (rSumT X.K) := by
  rintro pins s σ H vs us Q I r ⟨a, ns, rfl, ht, q⟩
  obtain rfl := Vals.ref1 r
  obtain ⟨its, rv, isT, _⟩ := I.tuple ht
  have are := rv.ints
  obtain ⟨xs, e⟩ : ∃ xs, its.toArray = intItems xs := are.allInts.items
  have nums : xs.toList.map (·.1) = ns := by
    rw [← nums_intItems, ← e]
    exact are.numsOf
  have isT' : s.heap.IsTuple a (intItems xs) := e ▸ isT
  refine PySem.W.ktm_sumG (I.ok.hd hc) isT' fun h' tk t' hk => ?_
  have val : preSum (numAt xs) xs.size = ns.sum := by
    rw [preSum_eq, List.take_of_length_le (by simp), nums]
  exact ⟨.int ns.sum, H, I.kept hk, ⟨t', by rw [val]⟩, q⟩

/-! ### xs[i], ahead of xs[i] op= e -/
def rGetL (K : PySem.W.Frag) : V → V → Hp → VK → Prop := fun x y H Q => ∃ (p : Addr) (xs : List V) (j : Nat) (v : V), x = .ref p ∧ y = .int (j : Int) ∧ SqL K H p xs ∧ xs[j]? = some v ∧ Q v H
theorem get_list : PGet X (rGetL X.K) := by
  intro ps s σ H x y v u Q I rx ry h
  obtain ⟨p, xs, j, z, rfl, rfl, hq, he, q⟩ := h
  cases rx
  obtain ⟨t, rfl⟩ := ry
  obtain ⟨us, r, pl, few⟩ := I.list hq
  obtain ⟨w, ew, rw'⟩ := r.get he
  have hl := r.length
  have hj := (List.getElem?_eq_some_iff.mp he).1
  have hn := line63
  refine wpAny_getItem_list pl.isList (by omega) (by omega) ?_ ⟨z, H, I, rw', q⟩
  simpa using ew
end
end MR
namespace MR
open L2 PySem PySem.Spec PyProof.Rows

/-! ### walks that hand out new pairs: any of the library's GoesN as a Turn of the layer -/
/-- at heap H the pairs to come are ps (Sq H ps), each in a tuple of its own -/
def ItP (Sq : Hp → List (V × V) → Prop) : It where
  go := fun i H => ∃ ps p, Sq H ps ∧ ps[i]? = some p
  yld := fun i H v H' => ∃ T p, v = .ref T ∧ H T = none ∧ H' = upd H T (.tup [p.1, p.2]) ∧ ∀ ps, Sq H ps → ps[i]? = some p
  stop := fun i H => ∃ ps, Sq H ps ∧ ps.length = i
theorem walk_pairs {Sq : Hp → List (V × V) → Prop} {ps : List (V × V)} : Walk (ItP Sq) ps.length (fun H => Sq H ps) (fun i H v H' => ∃ T p, v = .ref T ∧ H T = none ∧ H' = upd H T (.tup [p.1, p.2]) ∧ ps[i]? = some p) where
  goes := fun i _ hi q => ⟨ps, ps[i], q, List.getElem?_eq_getElem hi⟩
  stops := fun _ q => ⟨ps, q, rfl⟩
  yields := fun i _ _ _ _ q y => let ⟨T, p, e, n, u, f⟩ := y; ⟨T, p, e, n, u, f ps q⟩
/-- what the library must tell of the iterator at it, its cells fp, its state tn -/
structure Tells (P : Program) (w : World) (K : PySem.W.Frag) (tg : Expr) (Sq : Hp → List (V × V) → Prop) (fp : List Addr) (it : Addr) (tn : Nat → Heap → Prop) : Prop where
  mem : it ∈ fp
  obj : ∀ n g, tn n g → ∀ a ∈ fp, ∃ o, g.get? a = some o ∧ ∀ c, o.data ≠ .cell c
  keep : ∀ n g g', tn n g → (∀ a ∈ fp, ∀ o, g.get? a = some o → g'.get? a = some o) → tn n g'
  self : ∀ (A : Around) (n : Nat) (s : Shared) (Q E : Value → Shared → Prop), tn n s.heap → Q (.ref it) s → wpAny (model P w) A (pyIter (.ref it)) Q E s
  one : ∀ (X : Cx), X.prog = P → X.w = w → X.K = K → ∀ pins s σ H, Inv X pins σ H s → ∀ ps ps', Sq H ps → Sq H ps' → ps = ps'
  goes : ∀ (X : Cx), X.prog = P → X.w = w → X.K = K → X.calm = true → ∀ pins s σ H, Inv X pins σ H s → ∀ ps, Sq H ps → ∀ j, tn j s.heap →
    ∃ (fg wr : List Addr) (Y : Nat → Heap → Value → Heap → Prop) (St : Nat → Heap → Prop), GoesN P w X.A tg it fg wr ps.length Y St ∧ (∀ b ∈ wr, b ∈ fp) ∧ St j s.heap ∧ (∀ i h, St i h → tn i h) ∧
      ∀ i h₀ v h p, ps[i]? = some p → Y i h₀ v h → ∃ T u1 u2, v = .ref T ∧ h₀.objs.size ≤ T ∧ h.IsTuple T #[u1, u2] ∧ RelV p.1 u1 ∧ RelV p.2 u2
theorem Tells.turn {P : Program} {w : World} {K : PySem.W.Frag} {tg : Expr} {Sq : Hp → List (V × V) → Prop} {fp : List Addr} {it : Addr} {tn : Nat → Heap → Prop} (Z : Tells P w K tg Sq fp it tn) : Turn P w K tg (ItP Sq) fp it tn where
  mem := Z.mem
  obj := Z.obj
  keep := Z.keep
  self := Z.self
  item := fun X e1 e2 e3 hc i pins s σ H E I hf st hg => by
    obtain ⟨ps, p, hq, hp⟩ := hg
    obtain ⟨fg, wr, Y, St, W, hw, st', back, told⟩ := Z.goes X e1 e2 e3 hc pins s σ H I ps hq i st
    have live : ∀ b ∈ fp, b < s.heap.objs.size := fun b hb => let ⟨_, ho, _⟩ := Z.obj i _ st b hb; Heap.lt_size ho
    refine W.goes i s (fun u s2 => ∃ x H', Inv X pins σ H' s2 ∧ RelV x u ∧ (ItP Sq).yld i H x H' ∧ tn (i + 1) s2.heap ∧ ∀ b ∈ fp, H' b = none) E (List.getElem?_eq_some_iff.mp hp).1 st' fun u h' tk hY hst hk _ => ?_
    obtain ⟨T, u1, u2, rfl, hT, hI, r1, r2⟩ := told i s.heap u h' p hp hY
    have laid : ObjOk X.prog X.w (upd H T (.tup [p.1, p.2])) h' T (.tup [p.1, p.2]) := ⟨(by decide : 2 ≤ sizeLine), [u1, u2], .cons r1 (.cons r2 .nil), hI⟩
    refine ⟨.ref T, _, I.turnedNew (ch := fp) (fun b o hb => hk b o fun z => hb (hw b z)) hf hT laid, rfl, ⟨T, p, rfl, I.hok.fresh hT, rfl, fun ps' hq' => ?_⟩, back _ _ hst, fun b hb => ?_⟩
    · rw [Z.one X e1 e2 e3 pins s σ H I ps' ps hq' hq]
      exact hp
    · rw [upd_ne (Nat.ne_of_lt (Nat.lt_of_lt_of_le (live b hb) hT))]
      exact (hf b hb).1
  done := fun X e1 e2 e3 hc i pins s σ H E I hf st hg => by
    obtain ⟨ps, hq, rfl⟩ := hg
    obtain ⟨fg, wr, Y, St, W, hw, st', _, _⟩ := Z.goes X e1 e2 e3 hc pins s σ H I ps hq _ st
    exact W.stops s (fun s1 => Inv X pins σ H s1) E st' fun h' tk hk _ => I.turnedL (ch := fp) (fun b o hb => hk b o fun z => hb (hw b z)) hf

/-! ### enumerate(t), t a tuple -/
section
variable {w : World} {prog : Program}
/-- what begins as Begins tells, counted from 0 -/
theorem new_enum {v : Value} {o : Obj} {Hs : Heap → Prop} (B : Begins v o Hs) :
    Meets (Builtin.«enumerate.__new__» ⟨[.type "enumerate", v], []⟩) (fun _ R s => Hs s.heap ∧
      R (.ok (.ret (.ref (s.heap.push o).objs.size))) { s with heap := (s.heap.push o).push { cls := .type "enumerate", data := .fields #[.none, .bool false, .ref s.heap.objs.size, rawInt 0, .none, .none] } }) := by
  refine .of_wp fun prog w A R ⟨hp, g, d, tk, os⟩ ⟨h1, h⟩ => ?_
  have isE := sub_enumerate
  have begins : ∀ {A' : Around} {E' : Value → Shared → Prop} {Q' : Value → Shared → Prop}, Q' (.ref hp.objs.size) ⟨hp.push o, g, d, tk, os⟩ → wpAny (model prog w) A' (pyIter v) Q' E' ⟨hp, g, d, tk, os⟩ := B.iter prog w _ _ ⟨hp, g, d, tk, os⟩ _ h1
  wp_walk using begins
  refine wpAny_stack_any fun fr => wpAny_pure ?_
  split
  · rename_i c _ _ _ _ _
    by_cases hc : (c == Value.type "enumerate") = true
    all_goals (simp only [hc]; wp_walk using begins; exact ⟨_, rfl, h⟩)
  · wp_walk using begins
    exact ⟨_, rfl, h⟩
theorem enum_one {A : Around} {E : Value → Shared → Prop} {s : Shared} {v : Value} {o : Obj} {Hs : Heap → Prop} {Q : Value → Shared → Prop} (B : Begins v o Hs) (h1 : Hs s.heap)
    (h : ∀ h', IsEnum h' (s.heap.objs.size + 1) s.heap.objs.size 0 .none → h'.get? s.heap.objs.size = some o → (∀ b u, s.heap.get? b = some u → h'.get? b = some u) → Q (.ref (s.heap.objs.size + 1)) { s with heap := h' }) :
    wpAny (model prog w) A (call (.type "enumerate") [v]) Q E s := by
  have big : (s.heap.push o).objs.size = s.heap.objs.size + 1 := by rw [Heap.size_push]
  have made : IsEnum ((s.heap.push o).push { cls := .type "enumerate", data := .fields #[.none, .bool false, .ref s.heap.objs.size, rawInt 0, .none, .none] }) (s.heap.objs.size + 1) s.heap.objs.size 0 .none :=
    big ▸ Heap.get?_push_size (s.heap.push o) rfl
  refine callType_new F.called_enumerate (by decide) (F.typeCall_enumerate_1 _) (F.newCall_enumerate_1 _) (fun _ => F.args_object_init_2 _ _) F.entry_enumerate_new (new_enum B) (show _ ∧ _ from ⟨h1, ?_⟩)
  rw [big]
  exact ⟨⟨_, made, rfl⟩, h _ made (Heap.get?_push_of_some _ (Heap.get?_push_size _ B.free)) fun b u e => Heap.get?_push_of_some _ (Heap.get?_push_of_some _ e)⟩
end
/-- the tuple at a, its items numbered -/
def numbered (xs : List V) : List (V × V) := xs.mapIdx fun i x => (V.int (i : Int), x)
theorem numbered_at {xs : List V} {i : Nat} {p : V × V} (h : (numbered xs)[i]? = some p) : p.1 = .int (i : Int) ∧ xs[i]? = some p.2 := by
  unfold numbered at h
  rw [List.getElem?_mapIdx] at h
  cases e : xs[i]? with
  | none => rw [e] at h; exact absurd h (by simp)
  | some x =>
    rw [e] at h
    cases h
    exact ⟨rfl, rfl⟩
def SqE (K : PySem.W.Frag) (a : Addr) (H : Hp) (ps : List (V × V)) : Prop := ∃ xs, SqT K H a xs ∧ ps = numbered xs
theorem tells_enum {P : Program} {w : World} {K : PySem.W.Frag} {elts : List Expr} {kk : Nat} {tpos : Pos} (a e it : Addr) :
    Tells P w K (.Tuple elts kk tpos) (SqE K a) [e, it] e (fun i h => (∃ old, IsEnum h e it (0 + ((i : Nat) : Int)) old) ∧ h.IsTupleIter it a i ∧ (e ≠ it ∧ a ≠ it ∧ a ≠ e)) where
  mem := List.mem_cons_self
  obj := fun i h st b hb => by
    obtain ⟨⟨_, he⟩, ⟨u, hu, _, du⟩, _⟩ := st
    rcases List.mem_cons.mp hb with rfl | late
    · exact ⟨_, he, fun _ z => by cases z⟩
    · obtain rfl := List.mem_singleton.mp late
      exact ⟨u, hu, fun _ z => by rw [du] at z; cases z⟩
  keep := fun i h h' st k => ⟨let ⟨old, he⟩ := st.1; ⟨old, k e List.mem_cons_self _ he⟩, st.2.1.at (k it (List.mem_cons_of_mem _ List.mem_cons_self)), st.2.2⟩
  self := fun A i s Q E st h => let ⟨_, he⟩ := st.1; wpAny_pyIter_enum he h
  one := fun X e1 e2 e3 pins s σ H I ps ps' q q' => by
    subst e3
    obtain ⟨xs, hx, rfl⟩ := q
    obtain ⟨ys, hy, rfl⟩ := q'
    rw [I.tuple_inj hx hy]
  goes := fun X e1 e2 e3 hc pins s σ H I ps hq j st => by
    subst e1 e2 e3
    obtain ⟨xs, hx, rfl⟩ := hq
    obtain ⟨us, rv, isT, _⟩ := I.tuple hx
    have DD := Draws.tuple (prog := X.prog) (w := X.w) (A := X.A.in1) (I.ok.hd hc) it a st.2.2.2.1 us.toArray
    have ln : us.toArray.size = (numbered xs).length := by simp [numbered, rv.length]
    have far : e ∉ [it, a] := fun z => by
      rcases List.mem_cons.mp z with y | y
      · exact st.2.2.1 y
      · exact st.2.2.2.2 (List.mem_singleton.mp y).symm
    have W := GoesN.enumFrom (x1 := kk) (pos := tpos) (elts := elts) 0 DD e st.2.2.1 far List.mem_cons_self
    rw [ln] at W
    refine ⟨_, _, _, _, W, fun b hb => hb, ⟨st.1, st.2.1, isT⟩, fun i h q => ⟨q.1, q.2.1, st.2.2⟩, fun i h₀ v h p hp hY => ?_⟩
    obtain ⟨T, t, u, rfl, hT, hu, hI⟩ := hY
    obtain ⟨p1, p2⟩ := numbered_at hp
    obtain ⟨u', hu', r⟩ := rv.get p2
    have same : u' = u := Option.some.inj (hu'.symm.trans (by simpa using hu))
    subst same
    refine ⟨T, _, u', rfl, hT, hI, ?_, r⟩
    rw [p1]
    exact ⟨t, by rw [Int.zero_add]⟩
def iEnumT (K : PySem.W.Frag) (ta : TA) : TI := fun σ H R => ta σ H fun vs H1 => ∃ a xs, vs = [.ref a] ∧ SqT K H1 a xs ∧ R (ItP (SqE K a)) H1
theorem pi_enumT {X : Cx} {e : Expr} {ta : TA} {p pos tpos : Pos} {elts : List Expr} {kk : Nat} (hg : Gl X "enumerate") (hm : X.mg "enumerate" = none) (ha : PA X [e] ta) (hs : starEach [e] X.env = [(false, eval e X.env)] := by rfl) :
    PI X (.Tuple elts kk tpos) (.Call (.Name "enumerate" p) [e] [] pos) (iEnumT X.K ta) where
  run := fun pins s σ H R I h => by
    refine Call_ (ld_blt I hg hm boot_enumerate (PyProof.Rows.callWith_type1 (thn (ha.run pos pins s σ H _ I h) ?_) hs rfl))
    rintro us s1 ⟨vs, H1, I1, r1, a, xs, rfl, hx, q⟩
    obtain rfl := Vals.ref1 r1
    obtain ⟨ys, rv, isT, _⟩ := I1.tuple hx
    have old : a < s1.heap.objs.size := isT.lt
    refine enum_one (begins_tuple a ys.toArray) isT fun h' he hit hk => wpAny_pyIter_enum he ?_
    refine ⟨s1.heap.objs.size + 1, [s1.heap.objs.size + 1, s1.heap.objs.size], _, _, H1, rfl, I1.kept (t' := s1.toks) hk, (tells_enum a _ _).turn,
      ⟨⟨.none, he⟩, ⟨_, hit, rfl, rfl⟩, Nat.succ_ne_self _, Nat.ne_of_lt old, Nat.ne_of_lt (Nat.lt_succ_of_lt old)⟩, fun b hb => ?_, q⟩
    have new : s1.heap.objs.size ≤ b := by
      rcases List.mem_cons.mp hb with rfl | late
      · exact Nat.le_succ _
      · exact Nat.le_of_eq (List.mem_singleton.mp late).symm
    exact I1.fpOk new (I1.hok.fresh new)

/-! ### zip(t, u), zip(t, l), t and u tuples, l a list -/
def SqZ (K : PySem.W.Frag) (a b : Addr) (H : Hp) (ps : List (V × V)) : Prop := ∃ xs ys, SqT K H a xs ∧ SqL K H b ys ∧ ps = xs.zip ys
theorem zip_at {xs ys : List V} {i : Nat} {p : V × V} (h : (xs.zip ys)[i]? = some p) : xs[i]? = some p.1 ∧ ys[i]? = some p.2 := by
  have q := List.getElem?_zip_eq_some.mp h
  exact q
theorem tells_zip {P : Program} {w : World} {K : PySem.W.Frag} {elts : List Expr} {kk : Nat} {tpos : Pos} {a b z TI TO i1 i2 : Addr} (D : ZipSep2 z TI TO i1 i2 [i1, a] [i2, b]) (ai : a ≠ i1) (bi : b ≠ i2) :
    Tells P w K (.Tuple elts kk tpos) (SqZ K a b) [z, TI, TO, i1, i2] z (fun i h => IsZip h z TI TO .none ∧ IsTupOf2 h TI (.ref i1) (.ref i2) ∧ (∃ x y, IsTupOf2 h TO x y) ∧ h.IsTupleIter i1 a i ∧ h.IsListIter i2 b i) where
  mem := List.mem_cons_self
  obj := fun i h st c hc => by
    obtain ⟨st1, st2, ⟨_, _, st3⟩, ⟨u4, st4, _, d4⟩, ⟨u5, st5, _, d5⟩⟩ := st
    simp only [List.mem_cons, List.not_mem_nil, or_false] at hc
    rcases hc with rfl | rfl | rfl | rfl | rfl
    · exact ⟨_, st1, fun _ q => by cases q⟩
    · exact ⟨_, st2, fun _ q => by cases q⟩
    · exact ⟨_, st3, fun _ q => by cases q⟩
    · exact ⟨u4, st4, fun _ q => by rw [d4] at q; cases q⟩
    · exact ⟨u5, st5, fun _ q => by rw [d5] at q; cases q⟩
  keep := fun i h h' st k => ⟨k z (by simp) _ st.1, k TI (by simp) _ st.2.1, let ⟨x, y, q⟩ := st.2.2.1; ⟨x, y, k TO (by simp) _ q⟩, st.2.2.2.1.at (k i1 (by simp)), st.2.2.2.2.at (k i2 (by simp))⟩
  self := fun _ _ _ _ _ st h => wpAny_pyIter_zip st.1 h
  one := fun X e1 e2 e3 pins s σ H I ps ps' q q' => by
    subst e3
    obtain ⟨xs, ys, h1, h2, rfl⟩ := q
    obtain ⟨xs', ys', h1', h2', rfl⟩ := q'
    rw [I.tuple_inj h1 h1', I.list_inj h2 h2']
  goes := fun X e1 e2 e3 hc pins s σ H I ps hq j st => by
    subst e1 e2 e3
    obtain ⟨xs, ys, h1, h2, rfl⟩ := hq
    obtain ⟨us, rv, isT, _⟩ := I.tuple h1
    obtain ⟨vs, rw', isL, _⟩ := I.list h2
    have D1 := Draws.tuple (prog := X.prog) (w := X.w) (A := X.A.in1) (I.ok.hd hc) i1 a ai us.toArray
    have D2 := Draws.list (prog := X.prog) (w := X.w) (A := X.A.in1) (I.ok.hd hc) i2 b bi vs.toArray
    have ln : min us.toArray.size vs.toArray.size = (xs.zip ys).length := by simp [rv.length, rw'.length]
    have W := GoesN.zip2 (x1 := kk) (pos := tpos) (elts := elts) D D1 D2
    rw [ln] at W
    refine ⟨_, _, _, _, W, ?_, ⟨st.1, st.2.1, st.2.2.1, ⟨st.2.2.2.1, isT⟩, ⟨st.2.2.2.2, isL.isList⟩⟩, fun i h q => ⟨q.1, q.2.1, q.2.2.1, q.2.2.2.1.1, q.2.2.2.2.1⟩, fun i h₀ v h p hp hY => ?_⟩
    · intro c hc
      simp only [List.mem_cons, List.not_mem_nil, or_false] at hc ⊢
      rcases hc with q | q | q | q
      · exact .inl q
      · exact .inr (.inr (.inl q))
      · exact Or.inr (.inr (.inr (.inl q)))
      · exact .inr (.inr (.inr (.inr q)))
    · obtain ⟨T, x, y, rfl, hT, hx, hy, hI⟩ := hY
      obtain ⟨p1, p2⟩ := zip_at hp
      obtain ⟨x', hx', r1⟩ := rv.get p1
      obtain ⟨y', hy', r2⟩ := rw'.get p2
      have ex : x' = x := Option.some.inj (hx'.symm.trans (by simpa using hx))
      have ey : y' = y := Option.some.inj (hy'.symm.trans (by simpa using hy))
      subst ex ey
      exact ⟨T, x', y', rfl, hT, hI, r1, r2⟩
def iZipM (K : PySem.W.Frag) (ta : TA) : TI := fun σ H R => ta σ H fun vs H1 => ∃ a b xs ys, vs = [.ref a, .ref b] ∧ SqT K H1 a xs ∧ SqL K H1 b ys ∧ R (ItP (SqZ K a b)) H1
theorem refs2 {a b : Addr} {us : List Value} (r : Vals [V.ref a, V.ref b] us) : us = [Value.ref a, Value.ref b] := by
  obtain ⟨u, v, rfl, h1, h2⟩ := Vals.two r
  cases h1
  cases h2
  rfl
theorem pi_zipM {X : Cx} {e e2 : Expr} {ta : TA} {p pos tpos : Pos} {elts : List Expr} {kk : Nat} (hg : Gl X "zip") (hm : X.mg "zip" = none) (ha : PA X [e, e2] ta)
    (plain : (backTo pos (starEach [e2] X.env)).any (·.1) = false := by rfl) (each : starEach [e, e2] X.env = (false, eval e X.env) :: starEach [e2] X.env := by rfl) :
    PI X (.Tuple elts kk tpos) (.Call (.Name "zip" p) [e, e2] [] pos) (iZipM X.K ta) where
  run := fun pins s σ H R I h => by
    refine Call_ (ld_blt I hg hm PyProof.Rows.boot_zip (PyProof.Rows.callWith_type1 (thn (ha.run pos pins s σ H _ I h) ?_) each plain))
    rintro us s1 ⟨vs, H1, I1, r1, a, b, xs, ys, rfl, hx, hy, q⟩
    obtain rfl := refs2 r1
    obtain ⟨us, rv, isT, _⟩ := I1.tuple hx
    obtain ⟨ws, rw', isL, _⟩ := I1.list hy
    refine zip_begins2 (begins_tuple a us.toArray) (begins_list b ws.toArray) isT isL.isList fun h' hz hTI hTO h1 h2 _ hk => wpAny_pyIter_zip hz ?_
    have sep := zip_sep2 (N := s1.heap.objs.size) (fp1 := [a]) (fp2 := [b]) (fun c hc => by rw [List.mem_singleton.mp hc]; exact isT.lt) (fun c hc => by rw [List.mem_singleton.mp hc]; exact isL.lt)
    refine ⟨s1.heap.objs.size + 4, [s1.heap.objs.size + 4, s1.heap.objs.size + 2, s1.heap.objs.size + 3, s1.heap.objs.size, s1.heap.objs.size + 1], _, _, H1, rfl, I1.kept (t' := s1.toks) hk,
      (tells_zip sep (Nat.ne_of_lt isT.lt) (Nat.ne_of_lt (Nat.lt_succ_of_lt isL.lt))).turn, ⟨hz, hTI, ⟨_, _, hTO⟩, ⟨_, h1, rfl, rfl⟩, ⟨_, h2, rfl, rfl⟩⟩, fun c hc => ?_, q⟩
    have new : s1.heap.objs.size ≤ c := by
      simp only [List.mem_cons, List.not_mem_nil, or_false] at hc
      rcases hc with rfl | rfl | rfl | rfl | rfl
      all_goals first | exact Nat.le_refl _ | exact Nat.le_add_right _ _
    exact I1.fpOk new (I1.hok.fresh new)
/-- of two tuples: the layer's own walk, told as the others -/
theorem walk_zipT {K : PySem.W.Frag} {a b : Addr} {xs ys : List V} : Walk (RZ.ItzT K a b) (xs.zip ys).length (fun H => SqT K H a xs ∧ SqT K H b ys) (fun i H v H' => ∃ T p, v = .ref T ∧ H T = none ∧ H' = upd H T (.tup [p.1, p.2]) ∧ (xs.zip ys)[i]? = some p) where
  goes := fun i H hi q => by
    rw [List.length_zip] at hi
    exact ⟨xs, ys, xs[i]'(by omega), ys[i]'(by omega), q.1, q.2, List.getElem?_eq_getElem _, List.getElem?_eq_getElem _⟩
  stops := fun H q => ⟨xs, ys, q.1, q.2, by rw [List.length_zip]; omega⟩
  yields := fun i H v H' _ q y => by
    obtain ⟨T, x, u, e, n, c, f1, f2⟩ := y
    exact ⟨T, (x, u), e, n, c, List.getElem?_zip_eq_some.mpr ⟨f1 xs q.1, f2 ys q.2⟩⟩
end MR
namespace KM
open HT TS

/-! counts, lots, rows in plain Lean -/
def below (a b : List Int) : Bool := (List.zipWith (fun x y => decide (x ≤ y)) a b).all id
def inc (c : List Int) (k : Nat) : List Int := c.set k (c.getD k 0 + 1)
def stepOk (lots : List (List Int)) (c : List Int) (k : Nat) : Bool := !(lots.any fun lot => below lot (inc c k))
def stepC (lots : List (List Int)) (c : List Int) (k : Nat) : List Int := if stepOk lots c k then inc c k else c
def flags (lots : List (List Int)) : List Int → List Nat → List Bool
  | _, [] => []
  | c, k :: r => stepOk lots c k :: flags lots (stepC lots c k) r
def cnt (lots : List (List Int)) (c : List Int) (r : List Nat) : List Int := r.foldl (stepC lots) c
def zeros (many : Nat) : List Int := List.replicate many 0
def capAt : List (List Int) → Nat → Int
  | [], _ => 0
  | l :: r, k => max (l.getD k 0) (capAt r k)
def caps (lots : List (List Int)) (many : Nat) : List Int := (List.range many).map (capAt lots)
def capd (lots : List (List Int)) (many : Nat) (c : List Int) : List Int := List.zipWith min c (caps lots many)

theorem getD_eq (l : List Int) (j : Nat) (h : j < l.length) : l.getD j 0 = l[j] := by
  simp [List.getD_eq_getElem?_getD, List.getElem?_eq_getElem h]
theorem ext_getD {a b : List Int} (hl : a.length = b.length) (h : ∀ j, j < a.length → a.getD j 0 = b.getD j 0) : a = b := by
  apply List.ext_getElem hl
  intro j h1 h2
  have := h j h1
  rw [getD_eq _ _ h1, getD_eq _ _ h2] at this
  exact this
theorem inc_len (c : List Int) (k : Nat) : (inc c k).length = c.length := by simp [inc]
theorem stepC_len (lots : List (List Int)) (c : List Int) (k : Nat) : (stepC lots c k).length = c.length := by
  unfold stepC; split <;> simp [inc_len]
theorem cnt_len (lots : List (List Int)) : ∀ (r : List Nat) (c : List Int), (cnt lots c r).length = c.length
  | [], c => rfl
  | k :: r, c => by
    show (cnt lots (stepC lots c k) r).length = _
    rw [cnt_len lots r, stepC_len]
theorem cnt_snoc (lots : List (List Int)) (c : List Int) (r : List Nat) (k : Nat) : cnt lots c (r ++ [k]) = stepC lots (cnt lots c r) k := by
  unfold cnt; rw [List.foldl_append]; rfl
theorem flags_len (lots : List (List Int)) : ∀ (r : List Nat) (c : List Int), (flags lots c r).length = r.length
  | [], _ => rfl
  | k :: r, c => by simp [flags, flags_len lots r]
theorem flags_snoc (lots : List (List Int)) : ∀ (r : List Nat) (c : List Int) (k : Nat), flags lots c (r ++ [k]) = flags lots c r ++ [stepOk lots (cnt lots c r) k]
  | [], c, k => rfl
  | j :: r, c, k => by
    show stepOk lots c j :: flags lots (stepC lots c j) (r ++ [k]) = _
    rw [flags_snoc lots r]; rfl
theorem flags_take (lots : List (List Int)) : ∀ (r : List Nat) (c : List Int) (i : Nat), flags lots c (r.take i) = (flags lots c r).take i
  | [], c, i => by simp [flags]
  | j :: r, c, 0 => rfl
  | j :: r, c, i + 1 => by
    show stepOk lots c j :: flags lots (stepC lots c j) (r.take i) = stepOk lots c j :: (flags lots (stepC lots c j) r).take i
    rw [flags_take lots r]
theorem flags_get (lots : List (List Int)) : ∀ (r : List Nat) (c : List Int) (i : Nat) (k : Nat), r[i]? = some k → (flags lots c r)[i]? = some (stepOk lots (cnt lots c (r.take i)) k)
  | [], c, i, k, h => by simp at h
  | j :: r, c, 0, k, h => by
    have : j = k := by simpa using h
    subst this; rfl
  | j :: r, c, i + 1, k, h => by
    have h' : r[i]? = some k := by simpa using h
    show (flags lots (stepC lots c j) r)[i]? = _
    rw [flags_get lots r _ i k h']; rfl
theorem take_snoc {α : Type} {l : List α} {i : Nat} {x : α} (h : l[i]? = some x) : l.take (i + 1) = l.take i ++ [x] := by
  rw [List.take_add_one, h]; rfl

theorem inc_getD (c : List Int) (k j : Nat) (hk : k < c.length) : (inc c k).getD j 0 = if j = k then c.getD k 0 + 1 else c.getD j 0 := by
  unfold inc
  by_cases h : j = k
  · subst h
    simp [List.getD_eq_getElem?_getD, List.getElem?_set_self hk]
  · rw [if_neg h]
    simp [List.getD_eq_getElem?_getD, List.getElem?_set_ne (Ne.symm h)]
theorem inc_cut (c : List Int) (k : Nat) (hk : k < c.length) : inc c k = c.take k ++ [c.getD k 0 + 1] ++ c.drop (k + 1) := by
  unfold inc
  rw [List.set_eq_take_append_cons_drop, if_pos hk]
  simp
theorem caps_len (lots : List (List Int)) (many : Nat) : (caps lots many).length = many := by simp [caps]
theorem caps_getD (lots : List (List Int)) (many j : Nat) (h : j < many) : (caps lots many).getD j 0 = capAt lots j := by
  simp [caps, List.getD_eq_getElem?_getD, List.getElem?_map, h]
theorem capd_len (lots : List (List Int)) (many : Nat) (c : List Int) (hc : c.length = many) : (capd lots many c).length = many := by
  simp [capd, caps_len, hc]
theorem capd_getD (lots : List (List Int)) (many : Nat) (c : List Int) (hc : c.length = many) (j : Nat) (h : j < many) : (capd lots many c).getD j 0 = min (c.getD j 0) (capAt lots j) := by
  have h1 : j < c.length := by omega
  have h2 : j < (caps lots many).length := by rw [caps_len]; exact h
  have h3 : j < (capd lots many c).length := by rw [capd_len _ _ _ hc]; exact h
  have e := caps_getD lots many j h
  rw [getD_eq _ _ h2] at e
  rw [getD_eq _ _ h3, getD_eq _ _ h1]
  simp [capd, e]
theorem capAt_nn (lots : List (List Int)) (k : Nat) : 0 ≤ capAt lots k := by
  induction lots with
  | nil => exact Int.le_refl 0
  | cons l r ih => simp only [capAt]; omega
theorem capAt_le {lots : List (List Int)} {lot : List Int} (h : lot ∈ lots) (k : Nat) : lot.getD k 0 ≤ capAt lots k := by
  induction lots with
  | nil => cases h
  | cons l r ih =>
    simp only [capAt]
    rcases List.mem_cons.mp h with e | later
    · subst e; omega
    · have := ih later; omega
theorem capAt_mem (lots : List (List Int)) (k : Nat) : capAt lots k ∈ lots.map (fun l => l.getD k 0) ++ [0] := by
  induction lots with
  | nil => simp [capAt]
  | cons l r ih =>
    simp only [capAt]
    by_cases h : l.getD k 0 ≤ capAt r k
    · rw [Int.max_eq_right h]; simp only [List.map_cons, List.cons_append]; exact List.mem_cons_of_mem _ ih
    · rw [Int.max_eq_left (by omega)]; simp
/-- what max(..) of the program gives is the cap -/
theorem capAt_of {lots : List (List Int)} {k : Nat} {m : Int} (hm : m ∈ lots.map (fun l => l.getD k 0) ++ [0]) (hle : ∀ y, y ∈ lots.map (fun l => l.getD k 0) ++ [0] → y ≤ m) : m = capAt lots k := by
  have h1 := hle _ (capAt_mem lots k)
  have h2 : m ≤ capAt lots k := by
    rcases List.mem_append.mp hm with h | h
    · obtain ⟨l, hl, e⟩ := List.mem_map.mp h
      have := capAt_le hl k; omega
    · have e : m = 0 := by simpa using h
      have := capAt_nn lots k; omega
  omega
theorem below_iff : ∀ {a b : List Int}, a.length = b.length → (below a b = true ↔ ∀ j, j < a.length → a.getD j 0 ≤ b.getD j 0)
  | [], [], _ => by simp [below]
  | x :: a, y :: b, h => by
    have h' : a.length = b.length := by simpa using h
    have ih := below_iff h'
    have e : below (x :: a) (y :: b) = (decide (x ≤ y) && below a b) := by simp [below]
    rw [e, Bool.and_eq_true, decide_eq_true_eq, ih]
    constructor
    · rintro ⟨h1, h2⟩ j hj
      cases j with
      | zero => simpa using h1
      | succ j =>
        have := h2 j (by simpa using hj)
        simpa using this
    · intro h1
      refine ⟨by simpa using h1 0 (by simp), fun j hj => ?_⟩
      have := h1 (j + 1) (by simpa using hj)
      simpa using this
theorem below_capd {lots : List (List Int)} {lot c : List Int} {many k : Nat} (hm : lot ∈ lots) (hl : lot.length = many) (hc : c.length = many) (hk : k < many) :
    below lot (inc (capd lots many c) k) = below lot (inc c k) := by
  have hcd := capd_len lots many c hc
  rw [Bool.eq_iff_iff, below_iff (by rw [inc_len, hcd, hl]), below_iff (by rw [inc_len, hc, hl])]
  constructor
  · intro h j hj
    have h1 := h j hj
    rw [inc_getD _ _ _ (by omega)] at h1 ⊢
    have cj := capd_getD lots many c hc j (by omega)
    have ck := capd_getD lots many c hc k hk
    by_cases e : j = k
    · subst e
      rw [if_pos rfl] at h1 ⊢
      omega
    · rw [if_neg e] at h1 ⊢
      omega
  · intro h j hj
    have h1 := h j hj
    rw [inc_getD _ _ _ (by omega)] at h1 ⊢
    have cj := capd_getD lots many c hc j (by omega)
    have cl := capAt_le hm j
    by_cases e : j = k
    · subst e
      rw [if_pos rfl] at h1 ⊢
      omega
    · rw [if_neg e] at h1 ⊢
      omega
theorem any_congr {α : Type} {l : List α} {f g : α → Bool} (h : ∀ x ∈ l, f x = g x) : l.any f = l.any g := by
  induction l with
  | nil => rfl
  | cons x l ih =>
    simp only [List.any_cons]
    rw [h x List.mem_cons_self, ih fun y hy => h y (List.mem_cons_of_mem _ hy)]
theorem stepOk_capd {lots : List (List Int)} {c : List Int} {many k : Nat} (hl : ∀ l ∈ lots, l.length = many) (hc : c.length = many) (hk : k < many) : stepOk lots (capd lots many c) k = stepOk lots c k := by
  unfold stepOk
  rw [any_congr fun l hm => below_capd hm (hl l hm) hc hk]
theorem capd_inc {lots : List (List Int)} {c : List Int} {many k : Nat} (hc : c.length = many) (hk : k < many) : capd lots many (inc (capd lots many c) k) = capd lots many (inc c k) := by
  have hcd := capd_len lots many c hc
  have h1 : (inc (capd lots many c) k).length = many := by rw [inc_len, hcd]
  have h2 : (inc c k).length = many := by rw [inc_len, hc]
  apply ext_getD
  · rw [capd_len _ _ _ h1, capd_len _ _ _ h2]
  · intro j hj
    rw [capd_len _ _ _ h1] at hj
    rw [capd_getD _ _ _ h1 _ hj, capd_getD _ _ _ h2 _ hj, inc_getD _ _ _ (by omega), inc_getD _ _ _ (by omega)]
    have cj := capd_getD lots many c hc j hj
    have ck := capd_getD lots many c hc k hk
    by_cases e : j = k
    · subst e
      rw [if_pos rfl, if_pos rfl]; omega
    · rw [if_neg e, if_neg e]; omega
theorem zeros_len (many : Nat) : (zeros many).length = many := by simp [zeros]
theorem capd_zeros (lots : List (List Int)) (many : Nat) : capd lots many (zeros many) = zeros many := by
  apply ext_getD
  · rw [capd_len _ _ _ (zeros_len many), zeros_len]
  · intro j hj
    rw [capd_len _ _ _ (zeros_len many)] at hj
    rw [capd_getD _ _ _ (zeros_len many) _ hj]
    have e : (zeros many).getD j 0 = 0 := by simp [zeros, List.getD_eq_getElem?_getD, hj]
    have := capAt_nn lots j
    omega
theorem set_zero (c : List Int) (k : Nat) (hk : k < c.length) : c.set k (c.getD k 0 + 1 * 0) = c := by
  rw [getD_eq _ _ hk]
  simp

/-! ### the order of tuples, told by the library's code -/
theorem pow_pos' {B : Int} (h : 0 < B) : ∀ n : Nat, 0 < B ^ n
  | 0 => by simp only [Int.pow_zero]; decide
  | n + 1 => by rw [Int.pow_succ]; exact Int.mul_pos (pow_pos' h n) h
theorem code_bd {B : Int} (hB : 0 < B) : ∀ {a : List Int}, Bd B a → 0 ≤ code B a ∧ code B a < B ^ a.length
  | [], _ => by simp [code]
  | x :: a, h => by
    have ih := code_bd hB (a := a) fun m hm => h m (List.mem_cons_of_mem _ hm)
    have hx := h x List.mem_cons_self
    have p := pow_pos' hB a.length
    have e1 : 0 ≤ x * B ^ a.length := Int.mul_nonneg hx.1 (by omega)
    have e2 : (x + 1) * B ^ a.length ≤ B * B ^ a.length := Int.mul_le_mul_of_nonneg_right (by omega) (by omega)
    have e3 : (x + 1) * B ^ a.length = x * B ^ a.length + B ^ a.length := by rw [Int.add_mul, Int.one_mul]
    have e4 : B ^ (x :: a).length = B * B ^ a.length := by rw [List.length_cons, Int.pow_succ, Int.mul_comm]
    simp only [code]
    rw [e4]
    omega
theorem code_lex {B : Int} (hB : 0 < B) : ∀ {a b : List Int}, a.length = b.length → Bd B a → Bd B b → code B a ≤ code B b → a ≠ b → lexLt a b = true
  | [], [], _, _, _, _, h => absurd rfl h
  | x :: a, y :: b, hl, ha, hb, h, hne => by
    have hl' : a.length = b.length := by simpa using hl
    have ha' : Bd B a := fun m hm => ha m (List.mem_cons_of_mem _ hm)
    have hb' : Bd B b := fun m hm => hb m (List.mem_cons_of_mem _ hm)
    have ca := code_bd hB ha'
    have cb := code_bd hB hb'
    simp only [code] at h
    rw [hl'] at h ca
    by_cases e : x = y
    · subst e
      simp only [lexLt, if_pos]
      exact code_lex hB hl' ha' hb' (by omega) fun z => hne (by rw [z])
    · simp only [lexLt, if_neg e, decide_eq_true_eq]
      rcases Int.lt_or_le x y with q | q
      · exact q
      · exfalso
        have e2 : (y + 1) * B ^ b.length ≤ x * B ^ b.length := Int.mul_le_mul_of_nonneg_right (by omega) (by have := pow_pos' hB b.length; omega)
        rw [Int.add_mul, Int.one_mul] at e2
        omega

/-! ### right lots -/
structure Good (many : Nat) (lots : List (List Int)) : Prop where
  len : lots.length ≤ 12
  each : ∀ l ∈ lots, l.length = many ∧ (∀ x ∈ l, 0 ≤ x ∧ x ≤ 4) ∧ 2 ≤ l.sum
  pw : lots.Pairwise fun a b => lexLt a b = true ∧ below a b = false ∧ below b a = false
/-- right counts -/
def GoodC (many : Nat) (l : List Int) : Prop := l.length = many ∧ (∀ x ∈ l, 0 ≤ x ∧ x ≤ 4) ∧ 2 ≤ l.sum
theorem nodup_len {α : Type} [BEq α] [LawfulBEq α] : ∀ {xs ys : List α}, xs.Nodup → (∀ x ∈ xs, x ∈ ys) → xs.length ≤ ys.length
  | [], ys, _, _ => Nat.zero_le _
  | x :: xs, ys, h, hs => by
    have h1 := List.nodup_cons.mp h
    have hx := hs x List.mem_cons_self
    have ih := nodup_len (xs := xs) (ys := ys.erase x) h1.2 fun y hy => (List.mem_erase_of_ne (fun (e : y = x) => h1.1 (by rw [← e]; exact hy))).mpr (hs y (List.mem_cons_of_mem _ hy))
    rw [List.length_erase_of_mem hx] at ih
    have := List.length_pos_of_mem hx
    simp only [List.length_cons]
    omega
/-- which of the drawn are kept -/
def keep (drawn : List (List Int)) (one : List Int) : Bool := !(drawn.any fun o => !decide (o = one) && below o one)
theorem bd_of {l : List Int} (h : ∀ x ∈ l, 0 ≤ x ∧ x ≤ 4) : Bd 5 l := fun m hm => by have := h m hm; omega
theorem lex_of {many : Nat} {xs : List (List Int)} (hg : ∀ l ∈ xs, GoodC many l) (hn : xs.Nodup) (hc : xs.Pairwise fun a b => code 5 a ≤ code 5 b) : xs.Pairwise fun a b => lexLt a b = true ∧ a ≠ b := by
  refine List.Pairwise.imp_of_mem (fun {a b} ha hb h => ?_) (hc.and hn)
  exact ⟨code_lex (B := 5) (by decide) ((hg a ha).1.trans (hg b hb).1.symm) (bd_of (hg a ha).2.1) (bd_of (hg b hb).2.1) h.1 h.2, h.2⟩
theorem good_kept {many : Nat} {drawn xs : List (List Int)} (hd : drawn.length ≤ 8) (hg : ∀ l ∈ drawn, GoodC many l) (hs : ∀ x ∈ xs, x ∈ drawn) (hn : xs.Nodup) (hc : xs.Pairwise fun a b => code 5 a ≤ code 5 b) :
    Good many (xs.filter (keep drawn)) := by
  have hx : ∀ l ∈ xs, GoodC many l := fun l hl => hg l (hs l hl)
  refine ⟨?_, fun l hl => hx l (List.mem_filter.mp hl).1, ?_⟩
  · have h1 := List.length_filter_le (keep drawn) xs
    have h2 := nodup_len hn hs
    omega
  · refine List.Pairwise.imp_of_mem (fun {a b} ha hb h => ?_) ((lex_of hx hn hc).filter (keep drawn))
    have ka := (List.mem_filter.mp ha)
    have kb := (List.mem_filter.mp hb)
    have no : ∀ a b : List Int, a ∈ drawn → keep drawn b = true → a ≠ b → below a b = false := fun a b ha kb ne => by
      unfold keep at kb
      simp only [Bool.not_eq_true', List.any_eq_false] at kb
      have := kb a ha
      simp [ne] at this
      exact this
    exact ⟨h.1, no a b (hs a ka.1) kb.2 h.2, no b a (hs b kb.1) ka.2 (Ne.symm h.2)⟩

/-! ### the level -/
def levRow (w a : Int) : List (List Int) := ((List.range 5).filter fun (b : Nat) => decide (0 ≤ w - a - (b : Int)) && decide (w - a - (b : Int) ≤ 4)).map fun (b : Nat) => [a, (b : Int), w - a - (b : Int)]
def lev (w : Int) (n : Nat) : List (List Int) := (List.range n).flatMap fun (a : Nat) => levRow w (a : Int)
theorem lev_succ (w : Int) (n : Nat) : lev w (n + 1) = lev w n ++ levRow w (n : Int) := by
  unfold lev
  rw [List.range_succ, List.flatMap_append]
  simp
theorem lev_len {w : Int} (h : 3 ≤ w ∧ w ≤ 5) : 10 ≤ (lev w 5).length ∧ (lev w 5).length ≤ 18 := by
  have : w = 3 ∨ w = 4 ∨ w = 5 := by omega
  rcases this with rfl | rfl | rfl <;> decide
theorem lev_nd {w : Int} (h : 3 ≤ w ∧ w ≤ 5) : (lev w 5).Nodup := by
  have : w = 3 ∨ w = 4 ∨ w = 5 := by omega
  rcases this with rfl | rfl | rfl <;> decide
theorem lev_each {w : Int} (h : 3 ≤ w ∧ w ≤ 5) : ∀ l ∈ lev w 5, GoodC 3 l ∧ l.sum = w := by
  have : w = 3 ∨ w = 4 ∨ w = 5 := by omega
  unfold GoodC
  rcases this with rfl | rfl | rfl <;> decide
theorem lev_short (w : Int) : ∀ n : Nat, (lev w n).length ≤ 5 * n
  | 0 => by simp [lev]
  | n + 1 => by
    rw [lev_succ, List.length_append]
    have := lev_short w n
    have : (levRow w (n : Int)).length ≤ 5 := by
      unfold levRow
      rw [List.length_map]
      exact List.length_filter_le _ _
    omega
theorem below_sum : ∀ {a b : List Int}, a.length = b.length → below a b = true → a.sum ≤ b.sum ∧ (a.sum = b.sum → a = b)
  | [], [], _, _ => ⟨Int.le_refl _, fun _ => rfl⟩
  | x :: a, y :: b, hl, h => by
    have e : below (x :: a) (y :: b) = (decide (x ≤ y) && below a b) := by simp [below]
    rw [e, Bool.and_eq_true, decide_eq_true_eq] at h
    have ih := below_sum (by simpa using hl) h.2
    simp only [List.sum_cons]
    refine ⟨by omega, fun q => ?_⟩
    have h1 : x = y := by omega
    have h2 : a.sum = b.sum := by omega
    rw [h1, ih.2 h2]
theorem good_level {w : Int} {xs ys : List (List Int)} (hw : 3 ≤ w ∧ w ≤ 5) (hs : xs.Sublist (lev w 5)) (hl : xs.length ≤ 12) (hp : ys.Perm xs) (hc : ys.Pairwise fun a b => code 5 a ≤ code 5 b) : Good 3 ys := by
  have hm : ∀ l ∈ ys, l ∈ lev w 5 := fun l hl => hs.subset (hp.subset hl)
  have hn : ys.Nodup := (hp.nodup_iff).mpr ((lev_nd hw).sublist hs)
  have hx : ∀ l ∈ ys, GoodC 3 l := fun l hl => (lev_each hw l (hm l hl)).1
  refine ⟨by rw [hp.length_eq]; exact hl, hx, List.Pairwise.imp_of_mem (fun {a b} ha hb h => ?_) (lex_of hx hn hc)⟩
  have sa := (lev_each hw a (hm a ha)).2
  have sb := (lev_each hw b (hm b hb)).2
  have la := (hx a ha).1
  have lb := (hx b hb).1
  refine ⟨h.1, ?_, ?_⟩
  · cases e : below a b with
    | false => rfl
    | true => exact absurd ((below_sum (la.trans lb.symm) e).2 (sa.trans sb.symm)) h.2
  · cases e : below b a with
    | false => rfl
    | true => exact absurd ((below_sum (lb.trans la.symm) e).2 (sb.trans sa.symm)) (Ne.symm h.2)
end KM
/-! The text by places, what stands where, calls by contract, comprehensions that change nothing. -/
namespace LK
open PySem PySem.Spec PyProof.Rows L2 MR KM

/-! ### the text -/
def top (i : Nat) : Stmt := PySem.Challenge.pw_lastoflot_k78_whole_comers_by_kinds.main.body.getD i (.Pass ⟨0, 0, 0, 0⟩)
abbrev sInteger : Stmt := top 5
abbrev sWithin : Stmt := top 6
abbrev sCounts : Stmt := top 12
abbrev sAtMost : Stmt := top 13
abbrev sFirst : Stmt := top 14
abbrev sInit : Stmt := inClass (top 15) 0
abbrev sRowOf : Stmt := top 16
abbrev sCheck : Stmt := top 17
abbrev sBegin : Stmt := top 18
abbrev sCaps : Stmt := top 19
abbrev sWithOne : Stmt := top 20
abbrev sCapped : Stmt := top 21
abbrev sStep : Stmt := top 22
abbrev sRun : Stmt := top 23
abbrev sEnteredIn : Stmt := top 24
abbrev sEntered : Stmt := top 25
abbrev sCounted : Stmt := top 26
abbrev sEnteredCounts : Stmt := top 27
abbrev sHand : Stmt := top 29
abbrev sDraw : Stmt := top 30
abbrev sIs : Stmt := top 31
abbrev sBelow : Stmt := top 32
abbrev sLCounts : Stmt := top 33
abbrev sKindLots : Stmt := top 34
abbrev sLStep : Stmt := top 35
abbrev sThrough : Stmt := top 36
abbrev sKindRow : Stmt := top 37
abbrev sLevel : Stmt := top 38
abbrev sLaw : Stmt := top 39

/-! ### what stands in the heap -/
theorem same_upd {H : Hp} {p : Addr} {o : HO} (new : H p = none) : Same H (upd H p o) := fun _ _ e => by
  rw [upd_ne (ne_of_none e new)]
  exact e
theorem smT {K : PySem.W.Frag} {H H' : Hp} {a : Addr} {xs : List V} (e : Same H H') (h : SqT K H a xs) : SqT K H' a xs := by
  rcases h with (t | ⟨o, t⟩) | t
  · exact .inl (.inl (e _ _ t))
  · exact .inl (.inr ⟨o, e _ _ t⟩)
  · exact .inr t
/-- what is new since H may change -/
theorem smMut {H H' : Hp} {p : Addr} {o : HO} (e : Same H H') (h : H p = none) : Same H (upd H' p o) := fun a u ha => by
  rw [upd_ne (ne_of_none ha h)]
  exact e a u ha
/-- a tuple of ints -/
def TI (K : PySem.W.Frag) (H : Hp) (v : V) (ns : List Int) : Prop := ∃ a, v = .ref a ∧ SqT K H a (ns.map V.int)
def iz (ks : List Nat) : List Int := ks.map fun (k : Nat) => (k : Int)
/-- a tuple of tuples of ints -/
def TTI (K : PySem.W.Frag) (H : Hp) (v : V) (ls : List (List Int)) : Prop := ∃ a xs, v = .ref a ∧ SqT K H a xs ∧ xs.length = ls.length ∧ ∀ (i : Nat) x l, xs[i]? = some x → ls[i]? = some l → TI K H x l
theorem TI.mono {K : PySem.W.Frag} {H H' : Hp} {v : V} {ns : List Int} (s : Same H H') (h : TI K H v ns) : TI K H' v ns := by
  obtain ⟨a, e, q⟩ := h
  exact ⟨a, e, smT s q⟩
theorem TTI.mono {K : PySem.W.Frag} {H H' : Hp} {v : V} {ls : List (List Int)} (s : Same H H') (h : TTI K H v ls) : TTI K H' v ls := by
  obtain ⟨a, xs, e, q, hl, hx⟩ := h
  exact ⟨a, xs, e, smT s q, hl, fun i x l h1 h2 => (hx i x l h1 h2).mono s⟩
theorem iz_len (ks : List Nat) : (iz ks).length = ks.length := by simp [iz]
theorem get_int {ns : List Int} {i : Nat} {x : V} (h : (ns.map V.int)[i]? = some x) : ∃ n, ns[i]? = some n ∧ x = .int n := by
  rw [List.getElem?_map] at h
  cases e : ns[i]? with
  | none => rw [e] at h; nomatch h
  | some n => rw [e] at h; exact ⟨n, rfl, (Option.some.inj h).symm⟩
theorem get_iz {ks : List Nat} {i : Nat} {n : Int} (h : (iz ks)[i]? = some n) : ∃ k, ks[i]? = some k ∧ n = (k : Int) := by
  unfold iz at h
  rw [List.getElem?_map] at h
  cases e : ks[i]? with
  | none => rw [e] at h; nomatch h
  | some k => rw [e] at h; exact ⟨k, rfl, (Option.some.inj h).symm⟩
theorem at_lt {α : Type} {l : List α} {i : Nat} {x : α} (h : l[i]? = some x) : i < l.length := (List.getElem?_eq_some_iff.mp h).1
theorem get_at {α : Type} {l : List α} {i : Nat} (h : i < l.length) : l[i]? = some l[i] := List.getElem?_eq_getElem h
theorem at_getD {l : List Int} {i : Nat} (h : i < l.length) : l[i]? = some (l.getD i 0) := by
  rw [getD_eq _ _ h]; exact get_at h

/-! ### defs and their promises -/
structure Def (K : PySem.W.Frag) (mg : Str → Option Value) (x : Str) (ps : List Str) (st : Stmt) : Prop where
  ex : ∃ f fd, Fun K x x st f fd ∧ mg x = some (.ref f) ∧ Binds K fd ps []
/-- the def named x keeps the promise sp, by level k -/
structure Cl (P : Program) (w : World) (K : PySem.W.Frag) (mg : Str → Option Value) (base : Heap) (k : Nat) (x : Str) (ps : List Str) (sp : Sp) : Prop where
  ex : ∃ f fd, FnOk P w K mg base CX0 k f fd ps sp ∧ mg x = some (.ref f) ∧ PySem.W.keepIn K (.ref f) = true ∧ Binds K fd ps []
theorem Def.cl {P : Program} {w : World} {K : PySem.W.Frag} {mg : Str → Option Value} {base : Heap} {x : Str} {ps : List Str} {st : Stmt} {k : Nat} {sp : Sp} (D : Def K mg x ps st)
    (h : ∀ f fd, Fun K x x st f fd → FnOk P w K mg base CX0 k f fd ps sp) : Cl P w K mg base k x ps sp := by
  obtain ⟨f, fd, F, m, b⟩ := D.ex
  exact ⟨f, fd, h f fd F, m, F.kp, b⟩
theorem Cl.mono {P : Program} {w : World} {K : PySem.W.Frag} {mg : Str → Option Value} {base : Heap} {j k : Nat} {x : Str} {ps : List Str} {sp : Sp} (C : Cl P w K mg base j x ps sp) (h : j ≤ k) : Cl P w K mg base k x ps sp := by
  obtain ⟨f, fd, F, r⟩ := C.ex
  exact ⟨f, fd, F.mono h, r⟩
theorem pe_cl {X : Cx} {k : Nat} {x : Str} {ps : List Str} {sp : Sp} {p pos : Pos} {e : Expr} {es : List Expr} {t : TA} (C : Cl X.prog X.w X.K X.mg X.base k x ps sp) (hr : Room k X.A) (hg : Gl X x) (ha : PA X (e :: es) t)
    (plain : (backTo pos (starEach es X.env)).any (·.1) = false := by rfl) (each : starEach (e :: es) X.env = (false, eval e X.env) :: starEach es X.env := by rfl) (nd : (x == ("__debug__" : Str)) = false := by decide) :
    PE X (.Call (.Name x p) (e :: es) [] pos) (tCall sp [] E0 t) := by
  obtain ⟨f, fd, F, m, kp, b⟩ := C.ex
  exact pe_call F hr hg m kp b .nil pass0 ha nd each plain

/-! ### comprehensions that change nothing that stood -/
section
variable {n : Nat} {J : It} {Y : Nat → Hp → V → Hp → Prop} {G : Hp → Prop}
/-- a comprehension without a test -/
theorem lc_yes (w : Walk J n G Y) {g : TG} {te : TE} {vs : List Nat} {σ : L2.St} {H1 : Hp} {D : Addr} {Qd : Hp → Prop} (Pv : Nat → Hp → Prop) (h0 : Pv 0 (upd H1 D (.lst []))) (hG : ∀ i H, i ≤ n → Pv i H → G H)
    (hs : ∀ i x H H', i < n → Pv i H → Y i H x H' → g x (wipe σ vs) H' fun σ2 H2 => wipe σ2 vs = wipe σ vs ∧ te σ2 H2 fun y H4 => ∃ acc, H4 D = some (.lst acc) ∧ acc.length < sizeLine ∧ Pv (i + 1) (upd H4 D (.lst (acc ++ [y]))))
    (hd : ∀ H, Pv n H → Qd H) : ∃ W : Nat → Nat → Hp → Prop, (∃ m, W 0 m (upd H1 D (.lst []))) ∧
      ∀ i m H, W i m H → (J.stop i H ∧ Qd H) ∨ (J.go i H ∧ ∃ Nx : Hp → Prop, (∀ H', Nx H' → ∃ m', m' < m ∧ W (i + 1) m' H') ∧ ∀ x H', J.yld i H x H' → g x (wipe σ vs) H' fun σ2 H2 => wipe σ2 vs = wipe σ vs ∧ tYes σ2 H2 fun b H3 =>
        (if b = true then te σ2 H3 fun y H4 => ∃ acc, H4 D = some (.lst acc) ∧ acc.length < sizeLine ∧ Nx (upd H4 D (.lst (acc ++ [y]))) else Nx H3)) := by
  refine lc_it w Pv h0 hG (fun i x H H' hi p y => ?_) hd
  refine Eq.mp (congrArg (g x (wipe σ vs) H') ?_) (hs i x H H' hi p y)
  funext σ2 H2
  exact congrArg (And _) (by unfold tYes; exact (if_pos rfl).symm)
/-- the items are the values out, one a turn -/
theorem lc_vals (w : Walk J n G Y) {g : TG} {te : TE} {vs : List Nat} {σ : L2.St} {H1 : Hp} {D : Addr} {Qd : Hp → Prop} (out : List V) (ho : out.length = n) (hn : n ≤ 1000) (hD : H1 D = none)
    (hG : ∀ H, Same H1 H → G H)
    (hs : ∀ i x H H', i < n → Same H1 H → Y i H x H' → ∀ N : VK, (∀ y H4, Same H H4 → out[i]? = some y → N y H4) → g x (wipe σ vs) H' fun σ2 H2 => wipe σ2 vs = wipe σ vs ∧ te σ2 H2 N)
    (hd : ∀ H, Same H1 H → H D = some (.lst out) → Qd H) : ∃ W : Nat → Nat → Hp → Prop, (∃ m, W 0 m (upd H1 D (.lst []))) ∧
      ∀ i m H, W i m H → (J.stop i H ∧ Qd H) ∨ (J.go i H ∧ ∃ Nx : Hp → Prop, (∀ H', Nx H' → ∃ m', m' < m ∧ W (i + 1) m' H') ∧ ∀ x H', J.yld i H x H' → g x (wipe σ vs) H' fun σ2 H2 => wipe σ2 vs = wipe σ vs ∧ tYes σ2 H2 fun b H3 =>
        (if b = true then te σ2 H3 fun y H4 => ∃ acc, H4 D = some (.lst acc) ∧ acc.length < sizeLine ∧ Nx (upd H4 D (.lst (acc ++ [y]))) else Nx H3)) := by
  refine lc_yes w (fun i H => Same H1 H ∧ H D = some (.lst (out.take i))) ⟨same_upd hD, upd_same⟩ (fun i H _ h => hG H h.1) (fun i x H H' hi h y => ?_) (fun H h => ?_)
  · obtain ⟨s1, hy⟩ := h
    exact hs i x H H' hi s1 y _ fun y H4 s4 e => ⟨out.take i, s4 _ _ hy, small1000 (by rw [List.length_take]; omega), smMut (s1.trans s4) hD, by rw [upd_same, KM.take_snoc e]⟩
  · obtain ⟨s1, hy⟩ := h
    rw [List.take_of_length_le (by omega)] at hy
    exact hd H s1 hy
end
/-- a slot of a pair -/
theorem pair_slots {T : Addr} {x y : V} {i j : Nat} {σ : L2.St} {K : PySem.W.Frag} {H : Hp} {Q : L2.St → Hp → Prop} (h : Q ((σ.set i (some x)).set j (some y)) (upd H T (.tup [x, y]))) :
    gTup K 2 (gCons (gName i) (gCons (gName j) gNil)) (.ref T) σ (upd H T (.tup [x, y])) Q :=
  ⟨T, [x, y], rfl, .inl (.inl upd_same), rfl, x, [y], rfl, y, [], rfl, rfl, h⟩
/-- the names of builtins are free, the constants stand -/
structure Txt (mg : Str → Option Value) : Prop where
  isi : mg "isinstance" = none
  int : mg "int" = none
  bool : mg "bool" = none
  tup : mg "tuple" = none
  list : mg "list" = none
  len : mg "len" = none
  all : mg "all" = none
  any : mg "any" = none
  sum : mg "sum" = none
  zip : mg "zip" = none
  enum : mg "enumerate" = none
  max : mg "max" = none
  min : mg "min" = none
  rng : mg "range" = none
  sorted : mg "sorted" = none
  set : mg "set" = none
  abs : mg "abs" = none
  mkk : ∃ t, mg "MOST_KINDS" = some (.int 3 t)
  mc : ∃ t, mg "MOST_COUNT" = some (.int 4 t)
  ml : ∃ t, mg "MOST_LOTS" = some (.int 12 t)
  mr : ∃ t, mg "MOST_ROW" = some (.int 200 t)
theorem pe_const {X : Cx} {x : Str} {i : Int} {pos : Pos} (hg : Gl X x) (hm : ∃ t, X.mg x = some (.int i t)) (hd : (x == ("__debug__" : Str)) = false := by decide) : PE X (.Name x pos) (tC (.int i)) := by
  obtain ⟨t, e⟩ := hm
  exact pe_glob hg e ⟨_, rfl⟩ hd
theorem tyx_tup {K : PySem.W.Frag} {H : Hp} {a : Addr} {xs : List V} (h : SqT K H a xs) : TyX K H (.ref a) (.type "tuple") := by
  rcases h with (h | ⟨o, h⟩) | ⟨o, its, n, h, c, _⟩
  · exact .base (.tup h)
  · exact .fTuple h
  · exact .kTuple h c
/-! ### rules whose reading does not name the context (for what stands within a comprehension) -/
section
variable {X : Cx} {K : PySem.W.Frag}
theorem pe_fldK {e : Expr} {f : Str} {pos : Pos} {ta : TE} (hK : X.K = K) (he : PE X e ta) (hb : attributeBase e f X.env (eval e X.env) = eval e X.env) : PE X (.Attribute e f pos) (tFld K ta f) := by
  subst hK
  exact pe_fld he hb
theorem ix_tupK (hK : X.K = K) : IxR X (rIxT K) := by
  subst hK
  exact ix_tup
theorem ix_listK (hK : X.K = K) : IxR X (rIxL K) := by
  subst hK
  exact ix_list
theorem cr_maxK (hK : X.K = K) (hc : X.calm = true) : CallR X (.builtin "max") (rMax K) := by
  subst hK
  exact cr_max hc
theorem pi_tupK {tg l : Expr} {tl : TE} (hK : X.K = K) (hl : PE X l tl) : PI X tg l (iTup K tl) := by
  subst hK
  exact pi_tup hl
theorem op_neDK (hK : X.K = K) (hu : X.A.units + 64 < cLine) : OpR X (compareOp .NotEq) (rNeD K) := by
  subst hK
  exact op_neD hu
end
end LK
namespace LK
open PySem PySem.Spec PyProof.Rows L2 MR KM
section
variable {K : PySem.W.Frag} {base : Heap} {mg : Str → Option Value} {P : Program} {w : World}
/-! ### is_integer, is_within -/
def spInteger : Sp := fun vs H Q _ => ∃ i : Int, vs = [.int i] ∧ Q (.bl true) H
theorem scInteger : FnScope ["thing"] ["thing"] (defScope sInteger) := ⟨rfl, rfl, rfl, by decide +kernel, rfl, by decide +kernel, by decide +kernel⟩
theorem cl_integer (D : Def K mg "is_integer" ["thing"] sInteger) (T : Txt mg) : Cl P w K mg base 1 "is_integer" ["thing"] spInteger := by
  refine D.cl fun f fd F => F.ok scInteger (fun vs H Q E h => ?_) (fun cdv A outer s H vs Q E hr h => ?_)
  · obtain ⟨i, rfl, _⟩ := h
    rfl
  · obtain ⟨i, rfl, q⟩ := h
    refine ⟨_, pss_one (ps_ret (pe_and (pe_callB call_isi (by rfl) T.isi PyProof.Rows.boot_isinstance (pa_cons (pv 0) (pa_cons (pe_bltn (v := .ty "int") (by rfl) T.int PyProof.Rows.boot_int rfl) pa_nil)))
      (pe_one (pe_not (pe_callB call_isi (by rfl) T.isi PyProof.Rows.boot_isinstance (pa_cons (pv 0) (pa_cons (pe_bltn (v := .ty "bool") (by rfl) T.bool PyProof.Rows.boot_bool rfl) pa_nil))))))), ?_⟩
    refine ⟨_, rfl, _, _, _, _, true, rfl, .ty "int", .base (.int i), kit_ty (by decide +kernel), true, rfl, iteT ?_⟩
    exact ⟨_, rfl, _, _, _, _, false, rfl, .ty "bool", .base (.int i), kit_ty (by decide +kernel), false, rfl, q⟩
def spWithin : Sp := fun vs H Q _ => ∃ x lo hi : Int, vs = [.int x, .int lo, .int hi] ∧ Q (.bl (decide (lo ≤ x) && decide (x ≤ hi))) H
theorem scWithin : FnScope ["thing", "least", "most"] ["thing", "least", "most"] (defScope sWithin) := ⟨rfl, rfl, rfl, by decide +kernel, rfl, by decide +kernel, by decide +kernel⟩
theorem cl_within (D : Def K mg "is_within" ["thing", "least", "most"] sWithin) (ci : Cl P w K mg base 1 "is_integer" ["thing"] spInteger) : Cl P w K mg base 2 "is_within" ["thing", "least", "most"] spWithin := by
  refine D.cl fun f fd F => F.ok scWithin (fun vs H Q E h => ?_) (fun cdv A outer s H vs Q E hr h => ?_)
  · obtain ⟨x, lo, hi, rfl, _⟩ := h
    rfl
  · obtain ⟨x, lo, hi, rfl, q⟩ := h
    refine ⟨_, pss_one (ps_ret (pe_and (pe_cl ci hr (by rfl) (pa_cons (pv 0) pa_nil)) (pe_one (pe_chain op_le op_le (pv 1) (pv 0) (pv 2))))), ?_⟩
    refine ⟨_, rfl, x, rfl, true, rfl, iteT ?_⟩
    refine ⟨_, rfl, _, rfl, lo, x, rfl, rfl, decide (lo ≤ x), rfl, ?_⟩
    cases e : decide (lo ≤ x) with
    | false =>
      rw [e] at q
      exact q
    | true =>
      rw [e] at q
      exact ⟨_, rfl, x, hi, rfl, rfl, q⟩
end
end LK
namespace LK
open PySem PySem.Spec PyProof.Rows L2 MR KM
section
variable {K : PySem.W.Frag} {base : Heap} {mg : Str → Option Value} {P : Program} {w : World}
/-! ### is_counts -/
def spCounts (K : PySem.W.Frag) : Sp := fun vs H Q _ => ∃ (many : Nat) (t : V) (l : List Int), vs = [.int (many : Int), t] ∧ TI K H t l ∧ GoodC many l ∧ l.length ≤ 10 ∧ ∀ H', Same H H' → Q (.bl true) H'
theorem scCounts : FnScope ["many", "thing", "count"] ["many", "thing"] (defScope sCounts) := ⟨rfl, rfl, rfl, by decide +kernel, rfl, by decide +kernel, by decide +kernel⟩
theorem cl_counts (D : Def K mg "is_counts" ["many", "thing"] sCounts) (T : Txt mg) (cw : Cl P w K mg base 2 "is_within" ["thing", "least", "most"] spWithin) : Cl P w K mg base 3 "is_counts" ["many", "thing"] (spCounts K) := by
  refine D.cl fun f fd F => F.ok scCounts (fun vs H Q E h => ?_) (fun cdv A outer s H vs Q E hr h => ?_)
  · obtain ⟨many, t, l, rfl, _⟩ := h
    rfl
  · obtain ⟨many, t, l, rfl, ⟨a, rfl, hT⟩, ⟨g1, g2, g3⟩, hl, q⟩ := h
    refine ⟨_, pss_cons (ps_if (PW.pt (pw_or (pt_not (pt_val (pe_callB call_isi (by rfl) T.isi PyProof.Rows.boot_isinstance (pa_cons (pv 1) (pa_cons (pe_bltn (v := .ty "tuple") (by rfl) T.tup PyProof.Rows.boot_tuple rfl) pa_nil)))))
        (pw_or1 (pt_cmpR op_ne (pe_callB call_len_seq (by rfl) T.len PySem.boot_len (pa_cons (pv 1) pa_nil)) (pv 0) (nomark _))))) pss_never pss_nil)
      (pss_one (ps_ret (pe_and (pe_callB (cr_all rfl) (by rfl) T.all (by decide +kernel) (pa_cons
          (pe_lc (own := [("count", 2)]) (g := gName 2) (tt := tYes) rfl scCounts.nd (pi_tup (pv 1)) (blkOk_by (own := [("count", 2)]) (N := ["many", "thing", "count"]) (sc := defScope sCounts) (by decide +kernel))
            (fun _ _ _ _ _ => pg_name (i := 2) scCounts.nd rfl (Or.inl rfl)) (fun _ _ _ _ _ => pts_nil)
            (fun _ _ _ _ _ => pe_cl cw hr (by rfl) (pa_cons (pv 2) (pa_cons pe_int (pa_cons (pe_const (by rfl) T.mc) pa_nil))))) pa_nil))
        (pe_one (pe_cmpR op_gt (pe_callB (cr_sumT rfl) (by rfl) T.sum PyProof.Rows.boot_sum (pa_cons (pv 1) pa_nil)) pe_int (nomark _)))))), ?_⟩
    -- isinstance(thing, tuple), len(thing) != many
    refine ⟨_, rfl, _, _, _, _, true, rfl, .ty "tuple", tyx_tup hT, kit_ty (by decide +kernel), true, rfl, iteF ?_⟩
    refine ⟨_, rfl, a, _, rfl, .inr hT, _, rfl, rfl, _, rfl, iteNS (by rw [List.length_map, g1]) ?_⟩
    -- all(..)
    refine ⟨_, rfl, a, rfl, ⟨_, hT⟩, fun D hD => lc_vals walk_tup (l.map fun _ => V.bl true) (by simp) (by simp; omega) hD (fun H' s1 => smT s1 hT) (fun i x H2 H2' hi s1 y N hN => ⟨rfl, ?_⟩) (fun H2 s2 hL => ?_)⟩
    · obtain ⟨rfl, hx⟩ := y
      obtain ⟨n, hn, rfl⟩ := get_int hx
      have b := g2 n (List.mem_of_getElem? hn)
      refine ⟨_, rfl, n, 0, 4, rfl, ?_⟩
      have e : (decide ((0 : Int) ≤ n) && decide (n ≤ 4)) = true := by simp [b.1, b.2]
      rw [e]
      exact hN _ _ (Same.refl _) (by rw [List.getElem?_map, hn]; rfl)
    · refine ⟨D, l.map fun _ => true, rfl, SqL.of (by rw [hL, List.map_map]; rfl), ?_⟩
      have e : (l.map fun _ => true).all id = true := by simp
      rw [e]
      refine ⟨true, rfl, iteT ?_⟩
      refine ⟨_, rfl, a, l, rfl, smT s2 hT, l.sum, 1, rfl, rfl, ?_⟩
      have e2 : decide ((1 : Int) < l.sum) = true := decide_eq_true (by omega)
      show Q (.bl (decide ((1 : Int) < l.sum))) H2
      rw [e2]
      exact q H2 s2
/-! ### is_at_most -/
def spAtMost (K : PySem.W.Frag) : Sp := fun vs H Q _ => ∃ (x y : V) (a b : List Int), vs = [x, y] ∧ TI K H x a ∧ TI K H y b ∧ a.length = b.length ∧ a.length ≤ 10 ∧ ∀ H', Same H H' → Q (.bl (below a b)) H'
theorem scAtMost : FnScope ["one", "other", "count", "most"] ["one", "other"] (defScope sAtMost) := ⟨rfl, rfl, rfl, by decide +kernel, rfl, by decide +kernel, by decide +kernel⟩
theorem cl_atMost (D : Def K mg "is_at_most" ["one", "other"] sAtMost) (T : Txt mg) : Cl P w K mg base 1 "is_at_most" ["one", "other"] (spAtMost K) := by
  refine D.cl fun f fd F => F.ok scAtMost (fun vs H Q E h => ?_) (fun cdv A outer s H vs Q E hr h => ?_)
  · obtain ⟨x, y, a, b, rfl, _⟩ := h
    rfl
  · obtain ⟨x, y, a, b, rfl, ⟨p, rfl, hp⟩, ⟨p', rfl, hp'⟩, hl, hz, q⟩ := h
    refine ⟨_, pss_one (ps_ret (pe_callB (cr_all rfl) (by rfl) T.all (by decide +kernel) (pa_cons
          (pe_lc (own := [("count", 2), ("most", 3)]) (g := gTup K 2 (gCons (gName 2) (gCons (gName 3) gNil))) (tt := tYes) rfl scAtMost.nd (RZ.pi_zipA (by rfl) T.zip (pa_cons (pv 0) (pa_cons (pv 1) pa_nil))) (blkOk_by (own := [("count", 2), ("most", 3)]) (N := ["one", "other", "count", "most"]) (sc := defScope sAtMost) (by decide +kernel))
            (fun _ _ _ _ _ => pg_tup rfl (pgs_cons (pg_name (i := 2) scAtMost.nd rfl (Or.inl rfl)) (pgs_cons (pg_name (i := 3) scAtMost.nd rfl (Or.inl rfl)) pgs_nil))) (fun _ _ _ _ _ => pts_nil)
            (fun _ _ _ _ _ => pe_cmpR op_le (pv 2) (pv 3) (nomark _))) pa_nil))), ?_⟩
    refine ⟨_, rfl, _, rfl, p, p', _, _, rfl, .inr ⟨hp, hp', fun D hD => lc_vals walk_zipT (List.zipWith (fun x y => V.bl (decide (x ≤ y))) a b) (by simp) (by simp; omega) hD (fun H' s1 => ⟨smT s1 hp, smT s1 hp'⟩) (fun i x H2 H2' hi s1 y N hN => ?_) (fun H2 s2 hL => ?_)⟩⟩
    · obtain ⟨T', ⟨u, v⟩, rfl, hn, rfl, hp2⟩ := y
      obtain ⟨h1, h2⟩ : _ = some u ∧ _ = some v := zip_at hp2
      obtain ⟨n, hn1, rfl⟩ := get_int h1
      obtain ⟨m, hn2, rfl⟩ := get_int h2
      refine pair_slots ⟨rfl, ?_⟩
      refine ⟨_, rfl, _, rfl, n, m, rfl, rfl, ?_⟩
      exact hN _ _ (same_upd hn) (by rw [List.getElem?_zipWith, hn1, hn2])
    · refine ⟨D, List.zipWith (fun x y => decide (x ≤ y)) a b, rfl, SqL.of (by rw [hL, List.map_zipWith]), ?_⟩
      exact q H2 s2
end
end LK
namespace LK
open PySem PySem.Spec PyProof.Rows L2 MR KM
theorem cutV_take {xs : List V} {i : Nat} : cutV xs none (some (i : Int)) = xs.take i := by
  unfold cutV
  rw [HT.sIx_none, show HT.sIx xs.length xs.length (some (i : Int)) = min i xs.length from HT.sIx_nat xs.length xs.length i, List.drop_zero, Nat.sub_zero]
  by_cases h : i ≤ xs.length
  · rw [Nat.min_eq_left h]
  · rw [Nat.min_eq_right (by omega), List.take_length, List.take_of_length_le (by omega)]
theorem cutV_drop {xs : List V} {i : Nat} : cutV xs (some (i : Int)) none = xs.drop i := by
  unfold cutV
  rw [HT.sIx_none, show HT.sIx xs.length 0 (some (i : Int)) = min i xs.length from HT.sIx_nat xs.length 0 i]
  by_cases h : i ≤ xs.length
  · rw [Nat.min_eq_left h]
    exact List.take_of_length_le (by rw [List.length_drop]; exact Nat.le_refl _)
  · rw [Nat.min_eq_right (by omega)]
    simp
    omega
section
variable {K : PySem.W.Frag} {H : Hp} {a b : Addr} {xs ys : List V} {Q : VK}
theorem slA_ok {lo hi : Option Int} (h : SqT K H a xs) (q : ∀ p H', Same H H' → SqT K H' p (cutV xs lo hi) → Q (.ref p) H') : rSlA K (.ref a) lo hi H Q := by
  refine ⟨a, xs, rfl, h, fun z => ?_, fun _ p hp => q p _ (same_upd hp) (.inl (.inl upd_same))⟩
  refine q a H (Same.refl _) ?_
  have e : cutV xs lo hi = xs := by
    unfold cutV
    rw [z.1, z.2]
    simp
  rw [e]
  exact h
theorem slA_take {i : Nat} (h : SqT K H a xs) (q : ∀ p H', Same H H' → SqT K H' p (xs.take i) → Q (.ref p) H') : rSlA K (.ref a) none (some (i : Int)) H Q :=
  slA_ok h fun p H' s t => q p H' s (cutV_take ▸ t)
theorem slA_drop {i : Nat} (h : SqT K H a xs) (q : ∀ p H', Same H H' → SqT K H' p (xs.drop i) → Q (.ref p) H') : rSlA K (.ref a) (some (i : Int)) none H Q :=
  slA_ok h fun p H' s t => q p H' s (cutV_drop ▸ t)
theorem catA_ok (h : SqT K H a xs) (h' : SqT K H b ys) (hz : xs.length + ys.length ≤ 1000) (q : ∀ p H', Same H H' → SqT K H' p (xs ++ ys) → Q (.ref p) H') : rCatA K (.ref a) (.ref b) H Q := by
  refine ⟨a, b, xs, ys, rfl, rfl, h, h', Nat.le_of_lt (small1000 hz), fun e => ?_, fun _ e => ?_, fun _ _ p hp => q p _ (same_upd hp) (.inl (.inl upd_same))⟩
  · subst e
    exact q b H (Same.refl _) h'
  · subst e
    refine q a H (Same.refl _) ?_
    rw [List.append_nil]
    exact h
end
theorem any_no : ∀ l : List V, (l.map fun _ => false).any id = false
  | [] => rfl
  | _ :: l => any_no l
/-- a test whose answer is known, its ways joined -/
theorem and_join {t u : TT} {σ : L2.St} {H : Hp} {Q : Bool → Hp → Prop} (b : Bool) (hq : Q b H) (ht : ∀ Q' : Bool → Hp → Prop, Q' b H → tAnd t u σ H Q') : tAnd t u σ H Q := ht Q hq
theorem lex_at {many : Nat} {lots : List (List Int)} (G : Good many lots) {i j : Nat} {a b : List Int} (hij : i < j) (ha : lots[i]? = some a) (hb : lots[j]? = some b) : HT.lexLt a b = true ∧ below a b = false ∧ below b a = false := by
  obtain ⟨h1, e1⟩ := List.getElem?_eq_some_iff.mp ha
  obtain ⟨h2, e2⟩ := List.getElem?_eq_some_iff.mp hb
  have := List.pairwise_iff_getElem.mp G.pw i j h1 h2 hij
  rw [e1, e2] at this
  exact this
section
variable {K : PySem.W.Frag} {base : Heap} {mg : Str → Option Value} {P : Program} {w : World}
/-! ### first_wrong_counts -/
def spFirst (K : PySem.W.Frag) : Sp := fun vs H Q _ => ∃ (many : Nat) (t : V) (lots : List (List Int)), vs = [.int (many : Int), t] ∧ TTI K H t lots ∧ Good many lots ∧ many ≤ 3 ∧ ∀ H', Same H H' → Q .non H'
theorem scFirst : FnScope ["many", "lots", "at", "lot", "other"] ["many", "lots"] (defScope sFirst) := ⟨rfl, rfl, rfl, by decide +kernel, rfl, by decide +kernel, by decide +kernel⟩
theorem cl_first (D : Def K mg "first_wrong_counts" ["many", "lots"] sFirst) (T : Txt mg) (cc : Cl P w K mg base 3 "is_counts" ["many", "thing"] (spCounts K)) (ca : Cl P w K mg base 1 "is_at_most" ["one", "other"] (spAtMost K)) :
    Cl P w K mg base 4 "first_wrong_counts" ["many", "lots"] (spFirst K) := by
  refine D.cl fun f fd F => F.ok scFirst (fun vs H Q E h => ?_) (fun cdv A outer s H vs Q E hr h => ?_)
  · obtain ⟨many, t, l, rfl, _⟩ := h
    rfl
  · obtain ⟨many, t, lots, rfl, ⟨a, xs, rfl, hT, hlen, hx⟩, G, hm3, q⟩ := h
    have h12 := G.len
    refine ⟨_, pss_cons (ps_for PassesOwn.never rfl (pi_enumT (by rfl) T.enum (pa_cons (pv 1) pa_nil)) (pg_tup rfl (pgs_cons (pg_name (i := 2) scFirst.nd rfl (Or.inl rfl)) (pgs_cons (pg_name (i := 3) scFirst.nd rfl (Or.inr rfl)) pgs_nil)))
        (pss_cons (ps_if (PW.pt (pw_or (pt_not (pt_val (pe_cl cc hr (by rfl) (pa_cons (pv 0) (pa_cons (pv 3) pa_nil)))))
            (pw_or1 (PW.pt (pw_and (pt_cmpR op_gt (pv 2) pe_int (nomark _)) (pw_and1 (pt_not (pt_cmpR (op_ltT hr.units0) (pe_ix ix_tup (pv 1) (pe_op op_sub (pv 2) pe_int) (fun _ _ => rfl)) (pv 3) (nomark _))))))))) pss_never pss_nil)
          (pss_one (ps_if (pt_val (pe_callB (cr_any rfl) (by rfl) T.any (by decide +kernel) (pa_cons
            (pe_lc (own := [("other", 4)]) (g := gName 4) (tt := tYes) rfl scFirst.nd (pi_tup (pe_slice sl_tupA (pv 1) po_none (po_some (pv 2)))) (blkOk_by (own := [("other", 4)]) (N := ["many", "lots", "at", "lot", "other"]) (sc := defScope sFirst) (by decide +kernel))
              (fun _ _ _ _ _ => pg_name (i := 4) scFirst.nd rfl (Or.inl rfl)) (fun _ _ _ _ _ => pts_nil)
              (fun _ _ _ _ _ => pe_or (pe_cl ca (hr.mono (by decide)) (by rfl) (pa_cons (pv 3) (pa_cons (pv 4) pa_nil))) (pe_one (pe_cl ca (hr.mono (by decide)) (by rfl) (pa_cons (pv 4) (pa_cons (pv 3) pa_nil)))))) pa_nil))) pss_never pss_nil))))
      (pss_one (ps_ret pe_non)), ?_⟩
    refine ⟨_, rfl, a, xs, rfl, hT, for_it (walk_pairs (Sq := SqE K a) (ps := numbered xs)) (fun i σ H2 => Same H H2 ∧ ∃ y2 y3 y4, σ = [some (.int (many : Int)), some (.ref a), y2, y3, y4]) ⟨Same.refl _, none, none, none, rfl⟩ (fun i σ H2 _ p => ⟨xs, smT p.1 hT, rfl⟩) (fun i x σ H2 H2' hi p y => ?_) (fun σ H2 p => ?_)⟩
    · obtain ⟨s2, y2, y3, y4, rfl⟩ := p
      obtain ⟨T', ⟨u, v⟩, rfl, hn, rfl, hp2⟩ := y
      obtain ⟨h1, h2⟩ : u = .int (i : Int) ∧ xs[i]? = some v := numbered_at hp2
      subst h1
      have s3 := s2.trans (same_upd (o := .tup [V.int (i : Int), v]) hn)
      refine pair_slots ?_
      have hil : i < lots.length := by have := at_lt h2; omega
      obtain ⟨l, hl⟩ : ∃ l, lots[i]? = some l := ⟨_, get_at hil⟩
      have tv := hx i v l h2 hl
      have gl := G.each l (List.mem_of_getElem? hl)
      -- not is_counts(many, lot)
      refine ⟨_, rfl, _, rfl, many, v, l, rfl, tv.mono s3, gl, by rw [gl.1]; omega, fun H4 s4 => ⟨true, rfl, iteF ?_⟩⟩
      have s5 := s3.trans s4
      -- at > 0 and not lots[at - 1] < lot
      refine and_join false (iteF ?_) (fun Q' q' => ?_)
      · -- any(..)
        refine ⟨_, rfl, _, rfl, _, rfl, slA_take (smT s5 hT) fun p H5 s6 hp => ⟨p, rfl, ⟨_, hp⟩, fun D hD => ?_⟩⟩
        have s7 := s5.trans s6
        refine lc_vals walk_tup ((xs.take i).map fun _ => V.bl false) (by simp) (by rw [List.length_take]; omega) hD (fun H' s1 => smT s1 hp) (fun j x H6 H6' hj s8 y N hN => ⟨rfl, ?_⟩) (fun H6 s8 hL => ?_)
        · obtain ⟨rfl, hxj⟩ := y
          have hj' : j < i := by rw [List.length_take] at hj; omega
          have hxj' : xs[j]? = some x := by rw [List.getElem?_take_of_lt hj'] at hxj; exact hxj
          obtain ⟨lj, hlj⟩ : ∃ l, lots[j]? = some l := ⟨_, get_at (by omega)⟩
          have tj := hx j x lj hxj' hlj
          have gj := G.each lj (List.mem_of_getElem? hlj)
          obtain ⟨_, b1, b2⟩ := lex_at G hj' hlj hl
          have s9 := s7.trans s8
          refine ⟨_, rfl, _, rfl, v, x, l, lj, rfl, tv.mono s9, tj.mono s9, by rw [gl.1, gj.1], by rw [gl.1]; omega, fun H7 s10 => ⟨_, rfl, ?_⟩⟩
          rw [b2]
          refine iteF ?_
          refine ⟨_, rfl, _, rfl, x, v, lj, l, rfl, tj.mono (s9.trans s10), tv.mono (s9.trans s10), by rw [gl.1, gj.1], by rw [gj.1]; omega, fun H8 s11 => ?_⟩
          rw [b1]
          exact hN _ _ (s10.trans s11) (by rw [List.getElem?_map, hxj]; rfl)
        · refine ⟨D, (xs.take i).map fun _ => false, rfl, SqL.of (by rw [hL, List.map_map]; rfl), ?_⟩
          have e : ((xs.take i).map fun _ => false).any id = false := any_no _
          rw [e]
          exact ⟨false, rfl, iteF ⟨s7.trans s8, _, _, _, rfl⟩⟩
      · refine ⟨_, rfl, _, _, rfl, rfl, _, rfl, ?_⟩
        by_cases h0 : i = 0
        · subst h0
          exact iteF q'
        · have e : decide ((0 : Int) < (i : Int)) = true := decide_eq_true (by omega)
          rw [e]
          refine iteT ?_
          obtain ⟨lj, hlj⟩ : ∃ l, lots[i - 1]? = some l := ⟨_, get_at (by omega)⟩
          obtain ⟨x, hxj⟩ : ∃ x, xs[i - 1]? = some x := ⟨_, get_at (by omega)⟩
          obtain ⟨px, rfl, tj⟩ := (hx (i - 1) x lj hxj hlj).mono s5
          obtain ⟨pv', rfl, tv'⟩ := tv.mono s5
          obtain ⟨b0, _, _⟩ := lex_at G (show i - 1 < i by omega) hlj hl
          refine ⟨_, rfl, _, rfl, _, _, rfl, rfl, a, xs, _, .ref px, rfl, rfl, smT s5 hT, at_of (j := i - 1) (by omega) hxj, _, rfl, px, pv', lj, l, rfl, rfl, tj, tv', _, rfl, ?_⟩
          rw [b0]
          exact q'
    · obtain ⟨s2, _⟩ := p
      exact q H2 s2
end
end LK
namespace LK
open PySem PySem.Spec PyProof.Rows L2 MR KM
/-! ### an instance of Kinds -/
theorem kml : ¬ (("many" : Str) = "lots") := by decide +kernel
def flds (many : Nat) (t : V) : List (Str × V) := putF "lots" t (putF "many" (.int (many : Int)) [])
theorem flds_many (many : Nat) (t : V) : (flds many t).lookup ("many" : Str) = some (.int (many : Int)) := by
  unfold flds
  rw [lookup_putF, if_neg kml, lookup_putF, if_pos rfl]
theorem flds_lots (many : Nat) (t : V) : (flds many t).lookup ("lots" : Str) = some t := by
  unfold flds
  rw [lookup_putF, if_pos rfl]
structure KCls (K : PySem.W.Frag) (C : Addr) : Prop where
  cl : Cls K C
  nM : NoAttr K C "many"
  nL : NoAttr K C "lots"
def KN (K : PySem.W.Frag) (C : Addr) (H : Hp) (v : V) (many : Nat) (lots : List (List Int)) : Prop := ∃ p dx t, v = .ref p ∧ H p = some (.ins C dx (flds many t)) ∧ TTI K H t lots
theorem KN.mono {K : PySem.W.Frag} {C : Addr} {H H' : Hp} {v : V} {many : Nat} {lots : List (List Int)} (s : Same H H') (h : KN K C H v many lots) : KN K C H' v many lots := by
  obtain ⟨p, dx, t, e, q, r⟩ := h
  exact ⟨p, dx, t, e, s _ _ q, r.mono s⟩
section
variable {K : PySem.W.Frag} {base : Heap} {mg : Str → Option Value} {P : Program} {w : World}
def spInit (K : PySem.W.Frag) (C : Addr) : Sp := fun vs H Q _ => ∃ (p dx : Addr) (many : Nat) (t : V) (lots : List (List Int)), vs = [.ref p, .int (many : Int), t] ∧ H p = some (.ins C dx []) ∧ 1 ≤ many ∧ many ≤ 3 ∧ TTI K H t lots ∧ Good many lots ∧
  ∀ H', (∀ b o, H b = some o → b ≠ p → H' b = some o) → H' p = some (.ins C dx (flds many t)) → Q .non H'
theorem scInit : FnScope ["self", "many", "lots", "at"] ["self", "many", "lots"] (defScope sInit) := ⟨rfl, rfl, rfl, by decide +kernel, rfl, by decide +kernel, by decide +kernel⟩
theorem ok_init {C f : Addr} {fd : FuncData} (F : Fun K "__init__" "Kinds.__init__" sInit f fd) (T : Txt mg) (KC : KCls K C) (cw : Cl P w K mg base 2 "is_within" ["thing", "least", "most"] spWithin) (cf : Cl P w K mg base 4 "first_wrong_counts" ["many", "lots"] (spFirst K)) :
    FnOk P w K mg base CX0 5 f fd ["self", "many", "lots"] (spInit K C) := by
  refine F.ok scInit (fun vs H Q E h => ?_) (fun cdv A outer s H vs Q E hr h => ?_)
  · obtain ⟨p, dx, many, t, l, rfl, _⟩ := h
    rfl
  · obtain ⟨p, dx, many, t, lots, rfl, hp, m1, m3, tt, G, q⟩ := h
    obtain ⟨a, xs, rfl, hT, hlen, hx⟩ := id tt
    refine ⟨_, pss_cons (ps_if (pt_not (pt_val (pe_cl cw (hr.mono (by decide)) (by rfl) (pa_cons (pv 1) (pa_cons pe_int (pa_cons (pe_const (by rfl) T.mkk) pa_nil)))))) pss_never pss_nil)
      (pss_cons (ps_if (PW.pt (pw_or (pt_not (pt_val (pe_callB call_isi (by rfl) T.isi PyProof.Rows.boot_isinstance (pa_cons (pv 2) (pa_cons (pe_bltn (v := .ty "tuple") (by rfl) T.tup PyProof.Rows.boot_tuple rfl) pa_nil)))))
        (pw_or1 (pt_cmpR op_gt (pe_callB call_len_seq (by rfl) T.len PySem.boot_len (pa_cons (pv 2) pa_nil)) (pe_const (by rfl) T.ml) (nomark _))))) pss_never pss_nil)
      (pss_cons (ps_set (i := 3) scInit.nd rfl (Or.inl rfl) (pe_cl cf hr (by rfl) (pa_cons (pv 1) (pa_cons (pv 2) pa_nil))))
      (pss_cons (ps_if (pt_cmpR op_notN (pv 3) pe_non (nomark _)) pss_never pss_nil)
      (pss_cons (ps_fld (pv 0) (pv 1) rfl) (pss_one (ps_fld (pv 0) (pv 2) rfl)))))), ?_⟩
    -- is_within(many, 1, MOST_KINDS)
    refine ⟨_, rfl, (many : Int), 1, 3, rfl, ?_⟩
    have e1 : (decide ((1 : Int) ≤ (many : Int)) && decide ((many : Int) ≤ 3)) = true := by
      rw [decide_eq_true (by omega), decide_eq_true (by omega)]; rfl
    rw [e1]
    refine ⟨true, rfl, iteF ?_⟩
    -- isinstance(lots, tuple), len(lots) > MOST_LOTS
    refine ⟨_, rfl, _, _, _, _, true, rfl, .ty "tuple", tyx_tup hT, kit_ty (by decide +kernel), true, rfl, iteF ?_⟩
    refine ⟨_, rfl, a, _, rfl, .inr hT, _, _, rfl, rfl, _, rfl, ?_⟩
    have e2 : decide ((12 : Int) < (xs.length : Nat)) = false := decide_eq_false (by have := G.len; omega)
    rw [e2]
    refine iteF ?_
    -- at = first_wrong_counts(many, lots)
    refine ⟨_, rfl, _, rfl, many, _, lots, rfl, tt, G, m3, fun H2 s2 => ?_⟩
    refine ⟨_, rfl, rfl, _, rfl, iteNS rfl ?_⟩
    have hp2 := s2 _ _ hp
    refine ⟨_, rfl, _, rfl, p, C, dx, [], rfl, hp2, KC.cl, KC.nM, (by decide), ?_⟩
    refine ⟨_, rfl, _, rfl, p, C, dx, _, rfl, upd_same, KC.cl, KC.nL, (by show 1 < 1000; decide), ?_⟩
    refine q _ (fun b o e hb => ?_) upd_same
    rw [upd_ne hb, upd_ne hb]
    exact s2 b o e
/-! ### is_row_of, check_row -/
def spRowOf (K : PySem.W.Frag) (C : Addr) : Sp := fun vs H Q _ => ∃ (kd t : V) (many : Nat) (lots : List (List Int)) (row : List Nat), vs = [kd, t] ∧ KN K C H kd many lots ∧ TI K H t (iz row) ∧ row.length ≤ 200 ∧ (∀ k ∈ row, k < many) ∧ ∀ H', Same H H' → Q (.bl true) H'
theorem scRowOf : FnScope ["kinds", "thing", "kind"] ["kinds", "thing"] (defScope sRowOf) := ⟨rfl, rfl, rfl, by decide +kernel, rfl, by decide +kernel, by decide +kernel⟩
theorem cl_rowOf {C : Addr} (D : Def K mg "is_row_of" ["kinds", "thing"] sRowOf) (T : Txt mg) (KC : KCls K C) (cw : Cl P w K mg base 2 "is_within" ["thing", "least", "most"] spWithin) : Cl P w K mg base 3 "is_row_of" ["kinds", "thing"] (spRowOf K C) := by
  refine D.cl fun f fd F => F.ok scRowOf (fun vs H Q E h => ?_) (fun cdv A outer s H vs Q E hr h => ?_)
  · obtain ⟨kd, t, many, lots, row, rfl, _⟩ := h
    rfl
  · obtain ⟨kd, t, many, lots, row, rfl, kn, ⟨a, rfl, hT⟩, hl, hk, q⟩ := h
    refine ⟨_, pss_cons (ps_if (PW.pt (pw_or (pt_not (pt_val (pe_callB call_isi (by rfl) T.isi PyProof.Rows.boot_isinstance (pa_cons (pv 1) (pa_cons (pe_bltn (v := .ty "tuple") (by rfl) T.tup PyProof.Rows.boot_tuple rfl) pa_nil)))))
        (pw_or1 (pt_cmpR op_gt (pe_callB call_len_seq (by rfl) T.len PySem.boot_len (pa_cons (pv 1) pa_nil)) (pe_const (by rfl) T.mr) (nomark _))))) pss_never pss_nil)
      (pss_one (ps_ret (pe_callB (cr_all rfl) (by rfl) T.all (by decide +kernel) (pa_cons
          (pe_lc (own := [("kind", 2)]) (g := gName 2) (tt := tYes) rfl scRowOf.nd (pi_tup (pv 1)) (blkOk_by (own := [("kind", 2)]) (N := ["kinds", "thing", "kind"]) (sc := defScope sRowOf) (by decide +kernel))
            (fun _ _ _ _ _ => pg_name (i := 2) scRowOf.nd rfl (Or.inl rfl)) (fun _ _ _ _ _ => pts_nil)
            (fun _ _ _ _ _ => pe_cl cw hr (by rfl) (pa_cons (pv 2) (pa_cons pe_int (pa_cons (pe_op op_sub (pe_fldK (K := K) rfl (pv 0) (by rfl)) pe_int) pa_nil))))) pa_nil)))), ?_⟩
    refine ⟨_, rfl, _, _, _, _, true, rfl, .ty "tuple", tyx_tup hT, kit_ty (by decide +kernel), true, rfl, iteF ?_⟩
    refine ⟨_, rfl, a, _, rfl, .inr hT, _, _, rfl, rfl, _, rfl, ?_⟩
    have e2 : decide ((200 : Int) < (((iz row).map V.int).length : Nat)) = false := decide_eq_false (by rw [List.length_map, iz_len]; omega)
    rw [e2]
    refine iteF ?_
    refine ⟨_, rfl, a, rfl, ⟨_, hT⟩, fun D hD => lc_vals walk_tup (row.map fun _ => V.bl true) (by simp [iz_len]) (by simp [iz_len]; omega) hD (fun H' s1 => smT s1 hT) (fun i x H2 H2' hi s1 y N hN => ⟨rfl, ?_⟩) (fun H2 s2 hL => ?_)⟩
    · obtain ⟨rfl, hx⟩ := y
      obtain ⟨n, hn, rfl⟩ := get_int hx
      obtain ⟨k, hk', rfl⟩ := get_iz hn
      have b := hk k (List.mem_of_getElem? hk')
      obtain ⟨p, dx, t, rfl, hp, _⟩ := kn.mono s1
      refine ⟨_, rfl, _, rfl, p, C, dx, _, _, rfl, hp, KC.cl, KC.nM, flds_many _ _, _, _, rfl, rfl, (k : Int), 0, (many : Int) - 1, rfl, ?_⟩
      have e : (decide ((0 : Int) ≤ (k : Int)) && decide ((k : Int) ≤ (many : Int) - 1)) = true := by
        rw [decide_eq_true (by omega), decide_eq_true (by omega)]; rfl
      rw [e]
      exact hN _ _ (Same.refl _) (by rw [List.getElem?_map, hk']; rfl)
    · refine ⟨D, row.map fun _ => true, rfl, SqL.of (by rw [hL, List.map_map]; rfl), ?_⟩
      have e : (row.map fun _ => true).all id = true := by simp
      rw [e]
      exact q H2 s2
def spCheck (K : PySem.W.Frag) (C : Addr) : Sp := fun vs H Q _ => ∃ (kd t : V) (many : Nat) (lots : List (List Int)) (row : List Nat), vs = [kd, t] ∧ KN K C H kd many lots ∧ TI K H t (iz row) ∧ row.length ≤ 200 ∧ (∀ k ∈ row, k < many) ∧ ∀ H', Same H H' → Q .non H'
theorem scCheck : FnScope ["kinds", "thing"] ["kinds", "thing"] (defScope sCheck) := ⟨rfl, rfl, rfl, by decide +kernel, rfl, by decide +kernel, by decide +kernel⟩
theorem cl_check {C : Addr} (D : Def K mg "check_row" ["kinds", "thing"] sCheck) (cr : Cl P w K mg base 3 "is_row_of" ["kinds", "thing"] (spRowOf K C)) : Cl P w K mg base 4 "check_row" ["kinds", "thing"] (spCheck K C) := by
  refine D.cl fun f fd F => F.ok scCheck (fun vs H Q E h => ?_) (fun cdv A outer s H vs Q E hr h => ?_)
  · obtain ⟨kd, t, many, lots, row, rfl, _⟩ := h
    rfl
  · obtain ⟨kd, t, many, lots, row, rfl, kn, ht, hl, hk, q⟩ := h
    refine ⟨_, pss_one (ps_if (pt_not (pt_val (pe_cl cr hr (by rfl) (pa_cons (pv 0) (pa_cons (pv 1) pa_nil))))) pss_never pss_nil), ?_⟩
    exact ⟨_, rfl, _, rfl, kd, t, many, lots, row, rfl, kn, ht, hl, hk, fun H' s1 => ⟨true, rfl, iteF (q H' s1)⟩⟩
/-! ### begin -/
def spBegin (K : PySem.W.Frag) (C : Addr) : Sp := fun vs H Q _ => ∃ (kd : V) (many : Nat) (lots : List (List Int)), vs = [kd] ∧ KN K C H kd many lots ∧ 1 ≤ many ∧ many ≤ 3 ∧ ∀ v H', Same H H' → TI K H' v (zeros many) → Q v H'
theorem scBegin : FnScope ["kinds"] ["kinds"] (defScope sBegin) := ⟨rfl, rfl, rfl, by decide +kernel, rfl, by decide +kernel, by decide +kernel⟩
theorem zeros_rep (many : Nat) : (List.replicate ((many : Int).toNat) [V.int 0]).flatten = (zeros many).map V.int := by
  rw [Int.toNat_natCast]
  unfold zeros
  induction many with
  | zero => rfl
  | succ n ih => rw [List.replicate_succ, List.flatten_cons, ih, List.replicate_succ]; rfl
theorem cl_begin {C : Addr} (D : Def K mg "begin" ["kinds"] sBegin) (KC : KCls K C) : Cl P w K mg base 1 "begin" ["kinds"] (spBegin K C) := by
  refine D.cl fun f fd F => F.ok scBegin (fun vs H Q E h => ?_) (fun cdv A outer s H vs Q E hr h => ?_)
  · obtain ⟨kd, many, lots, rfl, _⟩ := h
    rfl
  · obtain ⟨kd, many, lots, rfl, ⟨p, dx, t, rfl, hp, tt⟩, m1, m3, q⟩ := h
    refine ⟨_, pss_one (ps_ret (pe_op op_repA (pe_tup (pa_cons pe_int pa_nil)) (pe_fld (pv 0) (by rfl)))), ?_⟩
    refine ⟨(by show 1 ≤ sizeLine; decide), fun z hz => ?_⟩
    have s1 : Same H (upd H z (.tup [V.int 0])) := same_upd hz
    refine ⟨_, rfl, p, C, dx, _, _, rfl, s1 _ _ hp, KC.cl, KC.nM, flds_many _ _, z, (many : Int), [V.int 0], rfl, rfl, .inl (.inl upd_same), by simp, by omega, by omega, by show 1 ≤ 1000; decide, fun v H' s2 hv => ?_⟩
    obtain ⟨r, rfl, hr'⟩ := hv
    rw [zeros_rep] at hr'
    exact q _ H' (s1.trans s2) ⟨r, rfl, hr'⟩
end
end LK
namespace LK
open PySem PySem.Spec PyProof.Rows L2 MR KM
section
variable {K : PySem.W.Frag} {base : Heap} {mg : Str → Option Value} {P : Program} {w : World}
/-! ### caps -/
def spCaps (K : PySem.W.Frag) (C : Addr) : Sp := fun vs H Q _ => ∃ (kd : V) (many : Nat) (lots : List (List Int)), vs = [kd] ∧ KN K C H kd many lots ∧ many ≤ 3 ∧ lots.length ≤ 12 ∧ (∀ l ∈ lots, l.length = many) ∧ ∀ v H', Same H H' → TI K H' v (caps lots many) → Q v H'
theorem scCaps : FnScope ["kinds", "kind", "lot"] ["kinds"] (defScope sCaps) := ⟨rfl, rfl, rfl, by decide +kernel, rfl, by decide +kernel, by decide +kernel⟩
theorem cl_caps {C : Addr} (D : Def K mg "caps" ["kinds"] sCaps) (T : Txt mg) (KC : KCls K C) : Cl P w K mg base 1 "caps" ["kinds"] (spCaps K C) := by
  refine D.cl fun f fd F => F.ok scCaps (fun vs H Q E h => ?_) (fun cdv A outer s H vs Q E hr h => ?_)
  · obtain ⟨kd, many, lots, rfl, _⟩ := h
    rfl
  · obtain ⟨kd, many, lots, rfl, ⟨p, dx, t, rfl, hp, tt⟩, m3, h12, hlen, q⟩ := h
    obtain ⟨a, xs, rfl, hT, hxl, hx⟩ := id tt
    refine ⟨_, pss_one (ps_ret (pe_callTy call_tuple_of (by rfl) T.tup PyProof.Rows.boot_tuple (pa_cons
      (pe_lc (own := [("kind", 1)]) (g := gName 1) (tt := tYes) rfl scCaps.nd (pi_range1 (by rfl) T.rng (pa_cons (pe_fld (pv 0) rfl) pa_nil)) (blkOk_by (own := [("kind", 1)]) (N := ["kinds", "kind", "lot"]) (sc := defScope sCaps) (by decide +kernel))
        (fun _ _ _ _ _ => pg_name (i := 1) scCaps.nd rfl (Or.inr rfl)) (fun _ _ _ _ _ => pts_nil)
        (fun _ _ _ _ _ => pe_callB (cr_maxK (K := K) rfl rfl) (by rfl) T.max PyProof.Rows.boot_max (pa_cons (pe_op op_cat
          (pe_lc (own := [("lot", 2)]) (g := gName 2) (tt := tYes) rfl scCaps.nd (pi_tupK (K := K) rfl (pe_fldK (K := K) rfl (pv 0) (by rfl))) (blkOk_by (own := [("lot", 2)]) (by rfl))
            (fun _ _ _ _ _ => pg_name (i := 2) scCaps.nd rfl (Or.inl rfl)) (fun _ _ _ _ _ => pts_nil)
            (fun _ _ _ _ _ => pe_ix (ix_tupK (K := K) rfl) (pv 2) (pv 1) (fun _ _ => rfl)))
          (pe_lst (pa_cons pe_int pa_nil))) pa_nil))) pa_nil))), ?_⟩
    refine ⟨_, rfl, p, C, dx, _, _, rfl, hp, KC.cl, KC.nM, flds_many _ _, (many : Int), rfl, by omega, by omega, fun D hD => ?_⟩
    refine lc_vals walk_range ((caps lots many).map V.int) (by simp [caps_len]) (by simp; omega) hD (fun _ _ => trivial) (fun i x H2 H2' hi s1 y N hN => ?_) (fun H2 s2 hL => ?_)
    · obtain ⟨rfl, rfl⟩ := y
      simp only [Int.toNat_natCast] at hi
      refine ⟨rfl, ?_⟩
      -- [lot[kind] for lot in kinds.lots]
      refine ⟨_, rfl, p, C, dx, _, _, rfl, s1 _ _ hp, KC.cl, KC.nL, flds_lots _ _, a, rfl, ⟨_, smT s1 hT⟩, fun D2 hD2 => ?_⟩
      refine lc_vals walk_tup ((lots.map fun l => l.getD i 0).map V.int) (by simp; omega) (by omega) hD2 (fun H' s3 => smT (s1.trans s3) hT) (fun j x H4 H4' hj s4 y N2 hN2 => ⟨rfl, ?_⟩) (fun H4 s4 hL2 => ?_)
      · obtain ⟨rfl, hxj⟩ := y
        obtain ⟨l, hl⟩ : ∃ l, lots[j]? = some l := ⟨_, get_at (by omega)⟩
        obtain ⟨px, rfl, tp⟩ := (hx j x l hxj hl).mono (s1.trans s4)
        have ll := hlen l (List.mem_of_getElem? hl)
        refine ⟨_, rfl, _, rfl, px, _, _, .int (l.getD i 0), rfl, rfl, tp, at_of (j := i) (by omega) (by rw [List.getElem?_map, at_getD (by omega)]; rfl), ?_⟩
        exact hN2 _ _ (Same.refl _) (by rw [List.getElem?_map, List.getElem?_map, hl]; rfl)
      · -- + [0], max
        refine ⟨(by show 1 ≤ sizeLine; decide), fun z hz => ⟨D2, z, _, _, rfl, rfl, (same_upd hz) _ _ hL2, upd_same, ?_, fun u hu => ⟨u, (lots.map fun l => l.getD i 0) ++ [0], rfl, SqL.of (by rw [upd_same, List.map_append]; rfl), by simp, fun m hm hle => ?_⟩⟩⟩
        · simp
          exact Nat.le_of_lt (small1000 (by omega))
        · rw [capAt_of hm hle]
          refine hN _ _ ((s4.trans (same_upd hz)).trans (same_upd hu)) ?_
          rw [List.getElem?_map, at_getD (by rw [caps_len]; exact hi), caps_getD _ _ _ hi]
          rfl
    · refine ⟨D, _, rfl, .inl ⟨SqL.of hL, fun l hl => ?_⟩⟩
      exact q _ _ (s2.trans (same_upd hl)) ⟨l, rfl, .inl (.inl upd_same)⟩
end
end LK
namespace LK
open PySem PySem.Spec PyProof.Rows L2 MR KM
section
variable {K : PySem.W.Frag} {base : Heap} {mg : Str → Option Value} {P : Program} {w : World}
/-! ### with_one -/
/-- counts[:kind] + (counts[kind] + 1,) + counts[kind + 1:]: the reading, for the program's with_one and the law's own -/
def spWithOne (K : PySem.W.Frag) : Sp := fun vs H Q _ => ∃ (c : V) (l : List Int) (k : Nat), vs = [c, .int (k : Int)] ∧ TI K H c l ∧ k < l.length ∧ l.length ≤ 10 ∧ ∀ v H', Same H H' → TI K H' v (inc l k) → Q v H'
theorem withOne_read {i j : Nat} {σ : L2.St} {H : Hp} {Q : VK} {a : Addr} {l : List Int} {k : Nat} (h1 : σ[i]? = some (some (.ref a))) (h2 : σ[j]? = some (some (.int (k : Int)))) (hT : SqT K H a (l.map V.int)) (hk : k < l.length) (hz : l.length ≤ 10)
    (q : ∀ v H', Same H H' → TI K H' v (inc l k) → Q v H') :
    tOp (rCatA K) (tOp (rCatA K) (tSl (rSlA K) (tVar i) tNoPart (tPart (tVar j))) (tTup (tCons (tOp (rI0 fun i j => .int (i + j)) (tOp (rIxT K) (tVar i) (tVar j)) (tC (.int 1))) tNil)))
      (tSl (rSlA K) (tVar i) (tPart (tOp (rI0 fun i j => .int (i + j)) (tVar j) (tC (.int 1)))) tNoPart) σ H Q := by
  refine ⟨_, h1, _, h2, _, rfl, slA_take hT fun p1 H1 s1 t1 => ?_⟩
  refine ⟨_, h1, _, h2, a, _, _, .int (l.getD k 0), rfl, rfl, smT s1 hT, at_of (j := k) rfl (by rw [List.getElem?_map, at_getD hk]; rfl), _, _, rfl, rfl, by show 1 ≤ sizeLine; decide, fun z hz' => ?_⟩
  have s2 := s1.trans (same_upd (o := .tup [V.int (l.getD k 0 + 1)]) hz')
  refine catA_ok (smT (same_upd hz') t1) (.inl (.inl upd_same)) (by simp; omega) fun p2 H2 s3 t2 => ?_
  have s4 := s2.trans s3
  refine ⟨_, h1, _, h2, _, _, rfl, rfl, ((k + 1 : Nat) : Int), congrArg V.int (show (k : Int) + 1 = ((k + 1 : Nat) : Int) by omega), ?_⟩
  dsimp only [tNoPart]
  refine slA_drop (smT s4 hT) fun p3 H3 s5 t3 => ?_
  refine catA_ok (smT s5 t2) t3 (by simp; omega) fun p4 H4 s6 t4 => ?_
  refine q _ H4 (s4.trans (s5.trans s6)) ⟨p4, rfl, ?_⟩
  rw [inc_cut l k hk]
  simpa using t4
theorem scWithOne : FnScope ["counts", "kind"] ["counts", "kind"] (defScope sWithOne) := ⟨rfl, rfl, rfl, by decide +kernel, rfl, by decide +kernel, by decide +kernel⟩
theorem cl_withOne (D : Def K mg "with_one" ["counts", "kind"] sWithOne) : Cl P w K mg base 1 "with_one" ["counts", "kind"] (spWithOne K) := by
  refine D.cl fun f fd F => F.ok scWithOne (fun vs H Q E h => ?_) (fun cdv A outer s H vs Q E hr h => ?_)
  · obtain ⟨c, l, k, rfl, _⟩ := h
    rfl
  · obtain ⟨c, l, k, rfl, ⟨a, rfl, hT⟩, hk, hz, q⟩ := h
    refine ⟨_, pss_one (ps_ret (pe_op op_catA (pe_op op_catA (pe_slice sl_tupA (pv 0) po_none (po_some (pv 1))) (pe_tup (pa_cons (pe_op op_add (pe_ix ix_tup (pv 0) (pv 1) (fun _ _ => rfl)) pe_int) pa_nil)))
      (pe_slice sl_tupA (pv 0) (po_some (pe_op op_add (pv 1) pe_int)) po_none))), ?_⟩
    exact withOne_read (i := 0) (j := 1) rfl rfl hT hk hz q
/-! ### capped -/
def spCapped (K : PySem.W.Frag) (C : Addr) : Sp := fun vs H Q _ => ∃ (kd c : V) (many : Nat) (lots : List (List Int)) (l : List Int), vs = [kd, c] ∧ KN K C H kd many lots ∧ TI K H c l ∧ many ≤ 3 ∧ lots.length ≤ 12 ∧ (∀ l ∈ lots, l.length = many) ∧ l.length = many ∧
  ∀ v H', Same H H' → TI K H' v (capd lots many l) → Q v H'
theorem scCapped : FnScope ["kinds", "counts", "count", "most"] ["kinds", "counts"] (defScope sCapped) := ⟨rfl, rfl, rfl, by decide +kernel, rfl, by decide +kernel, by decide +kernel⟩
theorem min_eq (x y : Int) : (if y < x then y else x) = min x y := by
  split <;> omega
theorem cl_capped {C : Addr} (D : Def K mg "capped" ["kinds", "counts"] sCapped) (T : Txt mg) (cp : Cl P w K mg base 1 "caps" ["kinds"] (spCaps K C)) : Cl P w K mg base 2 "capped" ["kinds", "counts"] (spCapped K C) := by
  refine D.cl fun f fd F => F.ok scCapped (fun vs H Q E h => ?_) (fun cdv A outer s H vs Q E hr h => ?_)
  · obtain ⟨kd, c, many, lots, l, rfl, _⟩ := h
    rfl
  · obtain ⟨kd, c, many, lots, l, rfl, kn, ⟨a, rfl, hT⟩, m3, h12, hlen, hl, q⟩ := h
    refine ⟨_, pss_one (ps_ret (pe_callTy call_tuple_of (by rfl) T.tup PyProof.Rows.boot_tuple (pa_cons
      (pe_lc (own := [("count", 2), ("most", 3)]) (g := gTup K 2 (gCons (gName 2) (gCons (gName 3) gNil))) (tt := tYes) rfl scCapped.nd (RZ.pi_zipA (by rfl) T.zip (pa_cons (pv 1) (pa_cons (pe_cl cp hr (by rfl) (pa_cons (pv 0) pa_nil)) pa_nil))) (blkOk_by (own := [("count", 2), ("most", 3)]) (N := ["kinds", "counts", "count", "most"]) (sc := defScope sCapped) (by decide +kernel))
        (fun _ _ _ _ _ => pg_tup rfl (pgs_cons (pg_name (i := 2) scCapped.nd rfl (Or.inl rfl)) (pgs_cons (pg_name (i := 3) scCapped.nd rfl (Or.inl rfl)) pgs_nil))) (fun _ _ _ _ _ => pts_nil)
        (fun _ _ _ _ _ => pe_callB (call_min2 rfl) (by rfl) T.min PyProof.Rows.boot_min (pa_cons (pv 2) (pa_cons (pv 3) pa_nil)))) pa_nil))), ?_⟩
    refine ⟨_, rfl, _, rfl, kd, many, lots, rfl, kn, m3, h12, hlen, fun v H1 s1 hv => ?_⟩
    obtain ⟨b, rfl, hB⟩ := hv
    refine ⟨a, b, _, _, rfl, .inr ⟨smT s1 hT, hB, fun D hD => lc_vals walk_zipT ((capd lots many l).map V.int) (by simp [capd_len _ _ _ hl, caps_len, hl]) (by simp [caps_len]; omega) hD (fun H' s2 => ⟨smT (s1.trans s2) hT, smT s2 hB⟩) (fun i x H2 H2' hi s2 y N hN => ?_) (fun H2 s2 hL => ?_)⟩⟩
    · obtain ⟨T', ⟨u, v⟩, rfl, hn, rfl, hp2⟩ := y
      obtain ⟨h1, h2⟩ : _ = some u ∧ _ = some v := zip_at hp2
      obtain ⟨n, hn1, rfl⟩ := get_int h1
      obtain ⟨m, hn2, rfl⟩ := get_int h2
      refine pair_slots ⟨rfl, ?_⟩
      refine ⟨_, rfl, _, rfl, n, m, rfl, ?_⟩
      show N (.int (if m < n then m else n)) _
      rw [min_eq]
      refine hN _ _ (same_upd hn) ?_
      rw [List.getElem?_map]
      unfold capd
      rw [List.getElem?_zipWith, hn1, hn2]
      rfl
    · refine ⟨D, _, rfl, .inl ⟨SqL.of hL, fun z hz => ?_⟩⟩
      exact q _ _ ((s1.trans s2).trans (same_upd hz)) ⟨z, rfl, .inl (.inl upd_same)⟩
/-! ### step -/
/-- what a step comes to -/
def StepTo (K : PySem.W.Frag) (H : Hp) (v : V) (b : Bool) (c : List Int) : Prop := ∃ p s, v = .ref p ∧ SqT K H p [.bl b, s] ∧ TI K H s c
def spStep (K : PySem.W.Frag) (C : Addr) : Sp := fun vs H Q _ => ∃ (kd st : V) (many : Nat) (lots : List (List Int)) (c : List Int) (k : Nat), vs = [kd, st, .int (k : Int)] ∧ KN K C H kd many lots ∧ TI K H st (capd lots many c) ∧ many ≤ 3 ∧ lots.length ≤ 12 ∧ (∀ l ∈ lots, l.length = many) ∧
  c.length = many ∧ k < many ∧ ∀ v H', Same H H' → StepTo K H' v (stepOk lots c k) (capd lots many (stepC lots c k)) → Q v H'
theorem scStep : FnScope ["kinds", "counts", "kind", "later", "lot"] ["kinds", "counts", "kind"] (defScope sStep) := ⟨rfl, rfl, rfl, by decide +kernel, rfl, by decide +kernel, by decide +kernel⟩
theorem cl_step {C : Addr} (D : Def K mg "step" ["kinds", "counts", "kind"] sStep) (T : Txt mg) (KC : KCls K C) (ca : Cl P w K mg base 1 "is_at_most" ["one", "other"] (spAtMost K)) (cw : Cl P w K mg base 1 "with_one" ["counts", "kind"] (spWithOne K)) (cc : Cl P w K mg base 2 "capped" ["kinds", "counts"] (spCapped K C)) :
    Cl P w K mg base 3 "step" ["kinds", "counts", "kind"] (spStep K C) := by
  refine D.cl fun f fd F => F.ok scStep (fun vs H Q E h => ?_) (fun cdv A outer s H vs Q E hr h => ?_)
  · obtain ⟨kd, st, many, lots, c, k, rfl, _⟩ := h
    rfl
  · obtain ⟨kd, st, many, lots, c, k, rfl, kn, ts, m3, h12, hlen, hc, hk, q⟩ := h
    have hcd := capd_len lots many c hc
    refine ⟨_, pss_cons (ps_set (i := 3) scStep.nd rfl (Or.inr rfl) (pe_cl cw (hr.mono (by decide)) (by rfl) (pa_cons (pv 1) (pa_cons (pv 2) pa_nil))))
      (pss_cons (ps_if (pt_val (pe_callB (cr_any rfl) (by rfl) T.any (by decide +kernel) (pa_cons
          (pe_lc (own := [("lot", 4)]) (g := gName 4) (tt := tYes) rfl scStep.nd (pi_tup (pe_fld (pv 0) rfl)) (blkOk_by (own := [("lot", 4)]) (N := ["kinds", "counts", "kind", "later", "lot"]) (sc := defScope sStep) (by decide +kernel))
            (fun _ _ _ _ _ => pg_name (i := 4) scStep.nd rfl (Or.inl rfl)) (fun _ _ _ _ _ => pts_nil)
            (fun _ _ _ _ _ => pe_cl ca (hr.mono (by decide)) (by rfl) (pa_cons (pv 4) (pa_cons (pv 3) pa_nil)))) pa_nil)))
          (pss_one (ps_ret (pe_tup (pa_cons pe_bl (pa_cons (pv 1) pa_nil))))) pss_nil)
      (pss_one (ps_ret (pe_tup (pa_cons pe_bl (pa_cons (pe_cl cc hr (by rfl) (pa_cons (pv 0) (pa_cons (pv 3) pa_nil))) pa_nil)))))), ?_⟩
    refine ⟨_, rfl, _, rfl, st, _, k, rfl, ts, by omega, by omega, fun lv H1 s1 tl => ?_⟩
    obtain ⟨p, dx, t, rfl, hp, a, xs, rfl, hT, hxl, hx⟩ := id (kn.mono s1)
    refine ⟨_, rfl, p, C, dx, _, _, rfl, hp, KC.cl, KC.nL, flds_lots _ _, a, rfl, ⟨_, hT⟩, fun D hD => ?_⟩
    refine lc_vals walk_tup (lots.map fun l => V.bl (below l (inc (capd lots many c) k))) (by simp; omega) (by omega) hD (fun H' s2 => smT s2 hT) (fun j x H2 H2' hj s2 y N hN => ⟨rfl, ?_⟩) (fun H2 s2 hL => ?_)
    · obtain ⟨rfl, hxj⟩ := y
      obtain ⟨l, hl⟩ : ∃ l, lots[j]? = some l := ⟨_, get_at (by omega)⟩
      have tx := (hx j x l hxj hl).mono s2
      have ll := hlen l (List.mem_of_getElem? hl)
      exact ⟨_, rfl, _, rfl, x, lv, l, _, rfl, tx, tl.mono s2, by rw [inc_len, hcd, ll], by omega, fun H3 s3 => hN _ _ s3 (by rw [List.getElem?_map, hl]; rfl)⟩
    · refine ⟨D, lots.map fun l => below l (inc (capd lots many c) k), rfl, SqL.of (by rw [hL, List.map_map]; rfl), ?_⟩
      have e : (lots.map fun l => below l (inc (capd lots many c) k)).any id = !stepOk lots c k := by
        rw [← stepOk_capd hlen hc hk]
        unfold stepOk
        rw [Bool.not_not, List.any_map]
        rfl
      rw [e]
      refine ⟨_, rfl, ?_⟩
      have s3 := s1.trans s2
      cases hb : stepOk lots c k with
      | false =>
        refine iteT ?_
        refine ⟨_, rfl, by show 2 ≤ sizeLine; decide, fun z hz => q _ _ (s3.trans (same_upd hz)) ⟨z, st, rfl, .inl (.inl (by rw [hb]; exact upd_same)), ?_⟩⟩
        have e2 : stepC lots c k = c := by
          unfold stepC
          rw [hb]
          rfl
        rw [e2]
        exact (ts.mono s3).mono (same_upd hz)
      | true =>
        refine iteF ?_
        refine ⟨_, rfl, _, rfl, _, lv, many, lots, _, rfl, kn.mono s3, tl.mono s2, m3, h12, hlen, by rw [inc_len, hcd], fun v H4 s4 tv => ?_⟩
        refine ⟨by show 2 ≤ sizeLine; decide, fun z hz => q _ _ ((s3.trans s4).trans (same_upd hz)) ⟨z, v, rfl, .inl (.inl (by rw [hb]; exact upd_same)), ?_⟩⟩
        have e2 : stepC lots c k = inc c k := by
          unfold stepC
          rw [hb]
          rfl
        rw [e2, ← capd_inc hc hk]
        exact tv.mono (same_upd hz)
end
end LK
namespace LK
open PySem PySem.Spec PyProof.Rows L2 MR KM
/-- what is known of the kinds, the row -/
structure Ok (many : Nat) (lots : List (List Int)) (row : List Nat) : Prop where
  m1 : 1 ≤ many
  m3 : many ≤ 3
  few : lots.length ≤ 12
  len : ∀ l ∈ lots, l.length = many
  short : row.length ≤ 200
  kinds : ∀ k ∈ row, k < many
section
variable {K : PySem.W.Frag} {base : Heap} {mg : Str → Option Value} {P : Program} {w : World}
/-! ### run -/
def spRun (K : PySem.W.Frag) (C : Addr) : Sp := fun vs H Q _ => ∃ (kd st rv : V) (many : Nat) (lots : List (List Int)) (row : List Nat), vs = [kd, st, rv] ∧ KN K C H kd many lots ∧ TI K H st (capd lots many (zeros many)) ∧ TI K H rv (iz row) ∧ Ok many lots row ∧
  ∀ p f s H', Same H H' → H f = none → SqT K H' p [.ref f, s] → H' f = some (.lst ((flags lots (zeros many) row).map V.bl)) → Q (.ref p) H'
theorem scRun : FnScope ["kinds", "state", "row", "found", "kind", "flag"] ["kinds", "state", "row"] (defScope sRun) := ⟨rfl, rfl, rfl, by decide +kernel, rfl, by decide +kernel, by decide +kernel⟩
theorem cl_run {C : Addr} (D : Def K mg "run" ["kinds", "state", "row"] sRun) (cs : Cl P w K mg base 3 "step" ["kinds", "counts", "kind"] (spStep K C)) : Cl P w K mg base 4 "run" ["kinds", "state", "row"] (spRun K C) := by
  refine D.cl fun f fd F => F.ok scRun (fun vs H Q E h => ?_) (fun cdv A outer s H vs Q E hr h => ?_)
  · obtain ⟨kd, st, rv, many, lots, row, rfl, _⟩ := h
    rfl
  · obtain ⟨kd, st, rv, many, lots, row, rfl, kn, ts, ⟨a, rfl, hT⟩, O, q⟩ := h
    refine ⟨_, pss_cons (ps_set (i := 3) scRun.nd rfl (Or.inl rfl) (pe_lst pa_nil))
      (pss_cons (ps_for PassesOwn.never rfl (pi_tup (pv 2)) (pg_name (i := 4) scRun.nd rfl (Or.inl rfl))
        (pss_cons (ps_asg (pe_cl cs hr (by rfl) (pa_cons (pv 0) (pa_cons (pv 1) (pa_cons (pv 4) pa_nil)))) (pg_tup rfl (pgs_cons (pg_name (i := 5) scRun.nd rfl (Or.inl rfl)) (pgs_cons (pg_name (i := 1) scRun.nd rfl (Or.inl rfl)) pgs_nil))))
          (pss_one (ps_expr (pe_bm PySem.F.plainAttrs_list PySem.F.slot_list_append PySem.F.type_list_append mt_append (pv 3) (pa_cons (pv 5) pa_nil))))))
      (pss_one (ps_ret (pe_tup (pa_cons (pv 3) (pa_cons (pv 1) pa_nil)))))), ?_⟩
    refine ⟨Nat.zero_le _, fun f nf => ?_⟩
    have s0 : Same H (upd H f (.lst [])) := same_upd nf
    refine ⟨.ref a, rfl, a, rfl, ⟨_, smT s0 hT⟩, for_it walk_tup (fun i σ H2 => ∃ st' y4 y5, σ = [some kd, some st', some (.ref a), some (.ref f), y4, y5] ∧ Same H H2 ∧ H2 f = some (.lst ((flags lots (zeros many) (row.take i)).map V.bl)) ∧ TI K H2 st' (capd lots many (cnt lots (zeros many) (row.take i))))
      ⟨st, none, none, rfl, s0, upd_same, ts.mono s0⟩ (fun i σ H2 _ ⟨_, _, _, _, s2, _⟩ => smT s2 hT) (fun i x σ H2 H2' hi p y => ?_) (fun σ H2 p => ?_)⟩
    · obtain ⟨st', y4, y5, rfl, s2, hf, t2⟩ := p
      obtain ⟨rfl, hx⟩ := y
      obtain ⟨n, hn, rfl⟩ := get_int hx
      obtain ⟨k, hk, rfl⟩ := get_iz hn
      have kl := O.kinds k (List.mem_of_getElem? hk)
      refine ⟨_, rfl, _, rfl, _, rfl, kd, st', many, lots, cnt lots (zeros many) (row.take i), k, rfl, kn.mono s2, t2, O.m3, O.few, O.len, by rw [cnt_len, zeros_len], kl, fun v H3 s3 hv => ?_⟩
      obtain ⟨p, s', rfl, hp, ts'⟩ := hv
      have s4 := s2.trans s3
      refine ⟨p, _, rfl, hp, rfl, _, _, rfl, s', [], rfl, rfl, ?_⟩
      have hf3 := s3 _ _ hf
      refine ⟨.ref f, rfl, .inl ⟨rfl, _, SqL.of hf3⟩, _, rfl, f, _, _, rfl, rfl, hf3, small1000 (by rw [List.length_map, flags_len, List.length_take]; have := O.short; omega), ?_⟩
      refine ⟨s', _, _, rfl, smMut s4 nf, ?_, ?_⟩
      · rw [upd_same, KM.take_snoc hk, flags_snoc, List.map_append]
        rfl
      · rw [KM.take_snoc hk, cnt_snoc]
        obtain ⟨b, rfl, hb⟩ := ts'
        refine ⟨b, rfl, ?_⟩
        -- the tuple is not the list at f
        have key : ∀ {u : Addr} {xs : List V}, SqT K H3 u xs → SqT K (upd H3 f (.lst ((flags lots (zeros many) (row.take i)).map V.bl ++ [V.bl (stepOk lots (cnt lots (zeros many) (row.take i)) k)]))) u xs := fun {u xs} hu => by
          rcases hu with (hu | ⟨o, hu⟩) | hu
          · refine .inl (.inl ?_)
            rw [upd_ne (ne_of hu hf3 (by intro z; cases z))]
            exact hu
          · refine .inl (.inr ⟨o, ?_⟩)
            rw [upd_ne (ne_of hu hf3 (by intro z; cases z))]
            exact hu
          · exact .inr hu
        exact key hb
    · obtain ⟨st', y4, y5, rfl, s2, hf, t2⟩ := p
      rw [List.length_map, iz_len, List.take_of_length_le (Nat.le_refl _)] at hf
      refine ⟨_, rfl, _, rfl, by show 2 ≤ sizeLine; decide, fun z hz => ?_⟩
      exact q z f st' _ (s2.trans (same_upd hz)) nf (.inl (.inl upd_same)) ((same_upd hz) _ _ hf)
/-! ### entered_in, entered -/
def spEntered (K : PySem.W.Frag) (C : Addr) : Sp := fun vs H Q _ => ∃ (kd rv : V) (many : Nat) (lots : List (List Int)) (row : List Nat), vs = [kd, rv] ∧ KN K C H kd many lots ∧ TI K H rv (iz row) ∧ Ok many lots row ∧
  ∀ f H', Same H H' → H f = none → H' f = some (.lst ((flags lots (zeros many) row).map V.bl)) → Q (.ref f) H'
theorem scEnteredIn : FnScope ["kinds", "row"] ["kinds", "row"] (defScope sEnteredIn) := ⟨rfl, rfl, rfl, by decide +kernel, rfl, by decide +kernel, by decide +kernel⟩
theorem cl_enteredIn {C : Addr} (D : Def K mg "entered_in" ["kinds", "row"] sEnteredIn) (cr : Cl P w K mg base 4 "run" ["kinds", "state", "row"] (spRun K C)) (cb : Cl P w K mg base 1 "begin" ["kinds"] (spBegin K C)) : Cl P w K mg base 5 "entered_in" ["kinds", "row"] (spEntered K C) := by
  refine D.cl fun f fd F => F.ok scEnteredIn (fun vs H Q E h => ?_) (fun cdv A outer s H vs Q E hr h => ?_)
  · obtain ⟨kd, rv, many, lots, row, rfl, _⟩ := h
    rfl
  · obtain ⟨kd, rv, many, lots, row, rfl, kn, tr, O, q⟩ := h
    refine ⟨_, pss_one (ps_ret (pe_ix ix_tup (pe_cl cr hr (by rfl) (pa_cons (pv 0) (pa_cons (pe_cl cb (hr.mono (by decide)) (by rfl) (pa_cons (pv 0) pa_nil)) (pa_cons (pv 1) pa_nil)))) pe_int (fun _ _ => rfl))), ?_⟩
    refine ⟨_, rfl, _, rfl, kd, many, lots, rfl, kn, O.m1, O.m3, fun v H1 s1 tv => ⟨_, rfl, kd, v, rv, many, lots, row, rfl, kn.mono s1, (by rw [capd_zeros]; exact tv), tr.mono s1, O, fun p f st H2 s2 nf hp hf => ?_⟩⟩
    refine ⟨p, _, 0, .ref f, rfl, rfl, hp, atI_nat (j := 0) rfl, ?_⟩
    exact q f H2 (s1.trans s2) (s1.free nf) hf
theorem scEntered : FnScope ["kinds", "row"] ["kinds", "row"] (defScope sEntered) := ⟨rfl, rfl, rfl, by decide +kernel, rfl, by decide +kernel, by decide +kernel⟩
theorem cl_entered {C : Addr} (D : Def K mg "entered" ["kinds", "row"] sEntered) (ck : Cl P w K mg base 4 "check_row" ["kinds", "thing"] (spCheck K C)) (ce : Cl P w K mg base 5 "entered_in" ["kinds", "row"] (spEntered K C)) : Cl P w K mg base 6 "entered" ["kinds", "row"] (spEntered K C) := by
  refine D.cl fun f fd F => F.ok scEntered (fun vs H Q E h => ?_) (fun cdv A outer s H vs Q E hr h => ?_)
  · obtain ⟨kd, rv, many, lots, row, rfl, _⟩ := h
    rfl
  · obtain ⟨kd, rv, many, lots, row, rfl, kn, tr, O, q⟩ := h
    refine ⟨_, pss_cons (ps_expr (pe_cl ck (hr.mono (by decide)) (by rfl) (pa_cons (pv 0) (pa_cons (pv 1) pa_nil)))) (pss_one (ps_ret (pe_cl ce hr (by rfl) (pa_cons (pv 0) (pa_cons (pv 1) pa_nil))))), ?_⟩
    refine ⟨_, rfl, _, rfl, kd, rv, many, lots, row, rfl, kn, tr, O.short, O.kinds, fun H1 s1 => ?_⟩
    exact ⟨_, rfl, _, rfl, kd, rv, many, lots, row, rfl, kn.mono s1, tr.mono s1, O, fun f H2 s2 nf hf => q f H2 (s1.trans s2) (s1.free nf) hf⟩
/-! ### counted, entered_counts -/
def spCounted (K : PySem.W.Frag) (C : Addr) : Sp := fun vs H Q _ => ∃ (kd rv fv : V) (many : Nat) (lots : List (List Int)) (row : List Nat), vs = [kd, rv, fv, .int 1] ∧ KN K C H kd many lots ∧ TI K H rv (iz row) ∧ Ok many lots row ∧ (∃ g, fv = .ref g ∧ H g = some (.lst ((flags lots (zeros many) row).map V.bl))) ∧
  ∀ f H', Same H H' → H f = none → H' f = some (.lst ((cnt lots (zeros many) row).map V.int)) → Q (.ref f) H'
theorem scCounted : FnScope ["kinds", "row", "flags", "times", "found", "kind", "flag"] ["kinds", "row", "flags", "times"] (defScope sCounted) := ⟨rfl, rfl, rfl, by decide +kernel, rfl, by decide +kernel, by decide +kernel⟩
theorem cl_counted {C : Addr} (D : Def K mg "counted" ["kinds", "row", "flags", "times"] sCounted) (T : Txt mg) (KC : KCls K C) : Cl P w K mg base 1 "counted" ["kinds", "row", "flags", "times"] (spCounted K C) := by
  refine D.cl fun f fd F => F.ok scCounted (fun vs H Q E h => ?_) (fun cdv A outer s H vs Q E hr h => ?_)
  · obtain ⟨kd, rv, fv, many, lots, row, rfl, _⟩ := h
    rfl
  · obtain ⟨kd, rv, fv, many, lots, row, rfl, ⟨p, dx, t, rfl, hp, tt⟩, ⟨a, rfl, hT⟩, O, ⟨g, rfl, hg⟩, q⟩ := h
    refine ⟨_, pss_cons (ps_set (i := 4) scCounted.nd rfl (Or.inl rfl) (pe_op op_rep (pe_lst (pa_cons pe_int pa_nil)) (pe_fld (pv 0) rfl)))
      (pss_cons (ps_for PassesOwn.never rfl (pi_zipM (by rfl) T.zip (pa_cons (pv 1) (pa_cons (pv 2) pa_nil))) (pg_tup rfl (pgs_cons (pg_name (i := 5) scCounted.nd rfl (Or.inl rfl)) (pgs_cons (pg_name (i := 6) scCounted.nd rfl (Or.inl rfl)) pgs_nil)))
        (pss_one (ps_augS (pv 4) (pv 5) get_list (pe_op op_mul (pv 3) (pe_callTy call_int1 (by rfl) T.int PyProof.Rows.boot_int (pa_cons (pv 6) pa_nil))) ip_add set_list)))
      (pss_one (ps_ret (pv 4)))), ?_⟩
    -- found = [0] * kinds.many
    refine ⟨(by show 1 ≤ sizeLine; decide), fun z hz => ?_⟩
    have s1 : Same H (upd H z (.lst [V.int 0])) := same_upd hz
    have m3 := O.m3
    refine ⟨_, rfl, p, C, dx, _, _, rfl, s1 _ _ hp, KC.cl, KC.nM, flds_many _ _, z, (many : Int), [V.int 0], rfl, rfl, upd_same, by omega, by omega, ?_, fun f nf => ?_⟩
    · show 1 * (many : Int).toNat ≤ sizeLine
      exact Nat.le_of_lt (small1000 (by omega))
    have s2 : Same H (upd (upd H z (.lst [V.int 0])) f (.lst (List.replicate ((many : Int).toNat) [V.int 0]).flatten)) := s1.trans (same_upd nf)
    have nf0 : H f = none := s1.free nf
    rw [zeros_rep]
    rw [zeros_rep] at s2
    -- the loop
    refine ⟨_, rfl, _, rfl, a, g, _, _, rfl, smT s2 hT, SqL.of (s2 _ _ hg), for_it (walk_pairs (Sq := SqZ K a g) (ps := ((iz row).map V.int).zip ((flags lots (zeros many) row).map V.bl))) (fun i σ H2 => ∃ y5 y6, σ = [some (.ref p), some (.ref a), some (.ref g), some (.int 1), some (.ref f), y5, y6] ∧ Same H H2 ∧ H2 f = some (.lst ((cnt lots (zeros many) (row.take i)).map V.int)))
      ⟨none, none, rfl, s2, upd_same⟩ (fun i σ H2 _ ⟨_, _, _, s3, _⟩ => ⟨_, _, smT s3 hT, SqL.of (s3 _ _ hg), rfl⟩) (fun i x σ H2 H2' hi p' y => ?_) (fun σ H2 p' => ?_)⟩
    · obtain ⟨y5, y6, rfl, s3, hf⟩ := p'
      obtain ⟨T', ⟨u, v⟩, rfl, hn, rfl, hp2⟩ := y
      obtain ⟨h1, h2⟩ : _ = some u ∧ _ = some v := zip_at hp2
      obtain ⟨n, hn1, rfl⟩ := get_int h1
      obtain ⟨k, hk, rfl⟩ := get_iz hn1
      have kl := O.kinds k (List.mem_of_getElem? hk)
      have hfl := flags_get lots row (zeros many) i k hk
      have ev : v = .bl (stepOk lots (cnt lots (zeros many) (row.take i)) k) := by
        have h2' : ((flags lots (zeros many) row).map V.bl)[i]? = some v := h2
        rw [List.getElem?_map, hfl] at h2'
        exact (Option.some.inj h2').symm
      subst ev
      have s4 := s3.trans (same_upd (o := .tup [V.int (k : Int), .bl (stepOk lots (cnt lots (zeros many) (row.take i)) k)]) hn)
      have hf4 := (same_upd (o := .tup [V.int (k : Int), .bl (stepOk lots (cnt lots (zeros many) (row.take i)) k)]) hn) _ _ hf
      have hlen : (cnt lots (zeros many) (row.take i)).length = many := by rw [cnt_len, zeros_len]
      have hgd : (cnt lots (zeros many) (row.take i))[k]? = some ((cnt lots (zeros many) (row.take i)).getD k 0) := at_getD (by omega)
      refine pair_slots ?_
      refine ⟨_, rfl, _, rfl, f, _, k, .int ((cnt lots (zeros many) (row.take i)).getD k 0), rfl, rfl, SqL.of hf4, by rw [List.getElem?_map, hgd]; rfl, ?_⟩
      refine ⟨_, rfl, _, rfl, .inr ⟨_, rfl, ?_⟩⟩
      refine ⟨1, _, rfl, rfl, .inl ⟨by decide, by decide⟩, _, _, rfl, rfl, f, _, (k : Int), k, rfl, rfl, hf4, ?_, ?_⟩
      · unfold ixN
        rw [if_pos (by omega), if_pos (by rw [List.length_map]; omega)]
        simp
      · refine ⟨_, _, rfl, smMut s4 nf0, ?_⟩
        rw [upd_same, KM.take_snoc hk, cnt_snoc]
        have e : ((cnt lots (zeros many) (row.take i)).map V.int).set k (.int ((cnt lots (zeros many) (row.take i)).getD k 0 + 1 * (if stepOk lots (cnt lots (zeros many) (row.take i)) k = true then 1 else 0))) = (stepC lots (cnt lots (zeros many) (row.take i)) k).map V.int := by
          rw [← List.map_set]
          congr 1
          unfold stepC
          cases hb : stepOk lots (cnt lots (zeros many) (row.take i)) k with
          | true =>
            rw [if_pos rfl, if_pos rfl]
            rfl
          | false =>
            rw [if_neg (by decide), if_neg (by decide)]
            exact set_zero _ _ (by omega)
        exact congrArg (fun l => some (HO.lst l)) e
    · obtain ⟨y5, y6, rfl, s3, hf⟩ := p'
      have e : (((iz row).map V.int).zip ((flags lots (zeros many) row).map V.bl)).length = row.length := by
        rw [List.length_zip, List.length_map, List.length_map, iz_len, flags_len]; omega
      rw [e, List.take_of_length_le (Nat.le_refl _)] at hf
      exact ⟨_, rfl, q f H2 s3 nf0 hf⟩
def spEnteredCounts (K : PySem.W.Frag) (C : Addr) : Sp := fun vs H Q _ => ∃ (kd rv : V) (many : Nat) (lots : List (List Int)) (row : List Nat), vs = [kd, rv] ∧ KN K C H kd many lots ∧ TI K H rv (iz row) ∧ Ok many lots row ∧
  ∀ v H', Same H H' → TI K H' v (cnt lots (zeros many) row) → Q v H'
theorem scEnteredCounts : FnScope ["kinds", "row"] ["kinds", "row"] (defScope sEnteredCounts) := ⟨rfl, rfl, rfl, by decide +kernel, rfl, by decide +kernel, by decide +kernel⟩
theorem cl_enteredCounts {C : Addr} (D : Def K mg "entered_counts" ["kinds", "row"] sEnteredCounts) (T : Txt mg) (ck : Cl P w K mg base 4 "check_row" ["kinds", "thing"] (spCheck K C)) (ce : Cl P w K mg base 5 "entered_in" ["kinds", "row"] (spEntered K C))
    (cc : Cl P w K mg base 1 "counted" ["kinds", "row", "flags", "times"] (spCounted K C)) : Cl P w K mg base 6 "entered_counts" ["kinds", "row"] (spEnteredCounts K C) := by
  refine D.cl fun f fd F => F.ok scEnteredCounts (fun vs H Q E h => ?_) (fun cdv A outer s H vs Q E hr h => ?_)
  · obtain ⟨kd, rv, many, lots, row, rfl, _⟩ := h
    rfl
  · obtain ⟨kd, rv, many, lots, row, rfl, kn, tr, O, q⟩ := h
    refine ⟨_, pss_cons (ps_expr (pe_cl ck (hr.mono (by decide)) (by rfl) (pa_cons (pv 0) (pa_cons (pv 1) pa_nil))))
      (pss_one (ps_ret (pe_callTy call_tuple_of (by rfl) T.tup PyProof.Rows.boot_tuple (pa_cons (pe_cl cc (hr.mono (by decide)) (by rfl) (pa_cons (pv 0) (pa_cons (pv 1) (pa_cons (pe_cl ce hr (by rfl) (pa_cons (pv 0) (pa_cons (pv 1) pa_nil))) (pa_cons pe_int pa_nil))))) pa_nil)))), ?_⟩
    refine ⟨_, rfl, _, rfl, kd, rv, many, lots, row, rfl, kn, tr, O.short, O.kinds, fun H1 s1 => ?_⟩
    refine ⟨_, rfl, _, rfl, _, rfl, _, rfl, kd, rv, many, lots, row, rfl, kn.mono s1, tr.mono s1, O, fun f H2 s2 nf hf => ?_⟩
    refine ⟨kd, rv, _, many, lots, row, rfl, (kn.mono s1).mono s2, (tr.mono s1).mono s2, O, ⟨f, rfl, hf⟩, fun c H3 s3 nc hc => ?_⟩
    refine ⟨c, _, rfl, .inl ⟨SqL.of hc, fun l hl => ?_⟩⟩
    exact q _ _ (((s1.trans s2).trans s3).trans (same_upd hl)) ⟨l, rfl, .inl (.inl upd_same)⟩
end
end LK
namespace LK
open PySem PySem.Spec PyProof.Rows L2 MR KM
/-- the hand: the cells at c, four ints -/
def hlst (c : Addr) (a b d e : Int) : List V := [.ref c, .int a, .int b, .int d, .int e]
def HandAt (H : Hp) (h c : Addr) : Prop := ∃ a b d e ns, 0 ≤ a ∧ H h = some (.lst (hlst c a b d e)) ∧ H c = some (.lst (List.map V.int ns))
theorem HandAt.ne {H : Hp} {h c : Addr} (x : HandAt H h c) : c ≠ h := by
  obtain ⟨a, b, d, e, ns, _, h1, h2⟩ := x
  refine ne_of h2 h1 fun z => ?_
  injection z with z
  cases ns with
  | nil => cases z
  | cons n ns => cases z
/-- all but what is at h stands as it stood -/
def But (h : Addr) (H H' : Hp) : Prop := ∀ b o, b ≠ h → H b = some o → H' b = some o
theorem But.refl (h : Addr) (H : Hp) : But h H H := fun _ _ _ e => e
theorem But.trans {h : Addr} {H H1 H2 : Hp} (a : But h H H1) (b : But h H1 H2) : But h H H2 := fun x o n e => b x o n (a x o n e)
theorem But.of {h : Addr} {H H' : Hp} (s : Same H H') : But h H H' := fun b o _ e => s b o e
theorem HandAt.mono {H H' : Hp} {h c : Addr} (s : Same H H') (x : HandAt H h c) : HandAt H' h c := by
  obtain ⟨a, b, d, e, ns, h0, h1, h2⟩ := x
  exact ⟨a, b, d, e, ns, h0, s _ _ h1, s _ _ h2⟩
/-- what is free behind was free ahead, but for h -/
theorem But.free {h : Addr} {H H' : Hp} (s : But h H H') {p : Addr} (n : H' p = none) (hp : p ≠ h) : H p = none := by
  cases q : H p with
  | none => rfl
  | some o =>
    rw [s p o hp q] at n
    cases n
theorem butT {K : PySem.W.Frag} {h : Addr} {H H' : Hp} {l : List V} (s : But h H H') (hh : H h = some (.lst l)) {a : Addr} {xs : List V} (t : SqT K H a xs) : SqT K H' a xs := by
  rcases t with (q | ⟨o, q⟩) | q
  · exact Or.inl (Or.inl (s _ _ (ne_of q hh (by intro z; cases z)) q))
  · exact Or.inl (Or.inr ⟨o, s _ _ (ne_of q hh (by intro z; cases z)) q⟩)
  · exact Or.inr q
theorem but_eq {h : Addr} {H H' : Hp} (e : ∀ b, b ≠ h → H' b = H b) : But h H H' := fun b o n q => (e b n).trans q
theorem butMut {h p : Addr} {o : HO} {H H' : Hp} (s : But h H H') (n : H p = none) : But h H (upd H' p o) := fun b u hb e => by
  rw [upd_ne (ne_of_none e n)]
  exact s b u hb e
theorem HandAt.upd {H : Hp} {h c p : Addr} {o : HO} (x : HandAt H h c) (h1 : p ≠ h) (h2 : p ≠ c) : HandAt (upd H p o) h c := by
  obtain ⟨a, b, d, e, ns, h0, q1, q2⟩ := x
  exact ⟨a, b, d, e, ns, h0, by rw [upd_ne (Ne.symm h1)]; exact q1, by rw [upd_ne (Ne.symm h2)]; exact q2⟩
/-- what is new is neither the hand nor its cells -/
theorem HandAt.new {H : Hp} {h c p : Addr} (x : HandAt H h c) (n : H p = none) : p ≠ h ∧ p ≠ c := by
  obtain ⟨a, b, d, e, ns, h0, q1, q2⟩ := x
  exact ⟨(ne_of_none q1 n).symm, (ne_of_none q2 n).symm⟩
theorem HandAt.list {H : Hp} {h c : Addr} (x : HandAt H h c) : ∃ l, H h = some (.lst l) := let ⟨_, _, _, _, _, _, q, _⟩ := x; ⟨_, q⟩
/-- xs[j] by a written j -/
theorem rd_at {K : PySem.W.Frag} {σ : L2.St} {H : Hp} {Q : VK} {i j : Nat} {a : Addr} {xs : List V} {v : V} {z : Int} (h1 : σ[i]? = some (some (.ref a))) (h2 : H a = some (.lst xs)) (e : z = (j : Int)) (h3 : xs[j]? = some v) (q : Q v H) :
    tOp (rIxL K) (tVar i) (tC (.int z)) σ H Q := ⟨_, h1, a, xs, z, v, rfl, rfl, SqL.of h2, at_of e h3, q⟩
/-- xs[j] = v by a written j -/
theorem wr_at {σ : L2.St} {H : Hp} {Q : L2.St → Hp → Prop} {i j : Nat} {a : Addr} {xs : List V} {v : V} {z : Int} (h1 : σ[i]? = some (some (.ref a))) (h2 : H a = some (.lst xs)) (e : z = (j : Int)) (h3 : j < xs.length) (q : Q σ (upd H a (.lst (xs.set j v)))) :
    gSub (tVar i) (tC (.int z)) rSetL v σ H Q := by
  refine ⟨_, h1, a, xs, z, j, rfl, rfl, h2, ?_, q⟩
  rw [e]
  unfold ixN
  rw [if_pos (by omega)]
  rw [if_pos (by omega)]
  simp
/-- a name gets an int of which P is known -/
theorem asg_int {te : TE} {i : Nat} {D : Ends} {u : TS} {σ : L2.St} {H : Hp} (Pn : Int → Prop) (ht : ∀ Q : VK, (∀ n, Pn n → Q (.int n) H) → te σ H Q) (k : ∀ n, Pn n → u D (σ.set i (some (.int n))) H) : tSeq (tAsg te (gName i)) u D σ H := ht _ k
section
variable {K : PySem.W.Frag} {base : Heap} {mg : Str → Option Value} {P : Program} {w : World}
/-! ### _law_hand -/
def spHand (K : PySem.W.Frag) : Sp := fun vs H Q _ => ∃ (a : Addr) (ns : List Int), vs = [.ref a] ∧ SqL K H a (ns.map V.int) ∧ ns.length ≤ 63 ∧ ∀ h c H', Same H H' → HandAt H' h c → H h = none → Q (.ref h) H'
theorem scHand : FnScope ["_law_script", "_law_cells", "_law_cell"] ["_law_script"] (defScope sHand) := ⟨rfl, rfl, rfl, by decide +kernel, rfl, by decide +kernel, by decide +kernel⟩
theorem cl_hand (D : Def K mg "_law_hand" ["_law_script"] sHand) (T : Txt mg) : Cl P w K mg base 1 "_law_hand" ["_law_script"] (spHand K) := by
  refine D.cl fun f fd F => F.ok scHand (fun vs H Q E h => ?_) (fun cdv A outer s H vs Q E hr h => ?_)
  · obtain ⟨a, ns, rfl, _⟩ := h
    rfl
  · obtain ⟨a, ns, rfl, hS, hl, q⟩ := h
    refine ⟨_, pss_cons (ps_setLc (i := 1) (own := [("_law_cell", 2)]) (g := gName 2) (tt := tYes) rfl scHand.nd rfl rfl (sw_true rfl rfl rfl (by decide +kernel)) (pi_list (pe_slice sl_list (pv 0) po_none (po_some pe_int))) (blkOk_by (own := [("_law_cell", 2)]) (N := ["_law_script", "_law_cells", "_law_cell"]) (sc := defScope sHand) (by decide +kernel))
        (fun _ _ _ _ _ => pg_name (i := 2) scHand.nd rfl (Or.inl rfl)) (fun _ _ _ _ _ => pts_nil)
        (fun _ _ _ _ _ => pe_callB call_abs (by rfl) T.abs PyProof.Rows.boot_abs (pa_cons (pe_callTy call_int1 (by rfl) T.int PyProof.Rows.boot_int (pa_cons (pv 2) pa_nil)) pa_nil)))
      (pss_one (ps_ret (pe_lst (pa_cons (pv 1) (pa_cons pe_int (pa_cons pe_int (pa_cons (pe_op op_add pe_int (pe_callB call_len_seq (by rfl) T.len PySem.boot_len (pa_cons (pv 1) pa_nil))) (pa_cons pe_int pa_nil)))))))), ?_⟩
    refine ⟨_, rfl, _, rfl, a, _, rfl, hS, fun p hp => ?_⟩
    have s1 : Same H (upd H p (.lst (cutV (ns.map V.int) none (some (63 : Int))))) := same_upd hp
    have hcut : cutV (ns.map V.int) none (some (63 : Int)) = ns.map V.int := by
      unfold cutV
      rw [HT.sIx_none, show HT.sIx (ns.map V.int).length (ns.map V.int).length (some (63 : Int)) = min 63 (ns.map V.int).length from HT.sIx_nat _ _ 63, List.drop_zero, List.length_map, Nat.min_eq_right hl]
      exact List.take_of_length_le (by rw [List.length_map]; omega)
    rw [hcut]
    rw [hcut] at s1
    refine ⟨p, rfl, ⟨_, SqL.of upd_same⟩, fun Dl hD => ?_⟩
    refine lc_vals walk_list ((ns.map fun n => if n < 0 then -n else n).map V.int) (by simp) (by simp; omega) hD (fun H' s2 => SqL.of (s2 _ _ upd_same)) (fun i x H2 H2' hi s2 y N hN => ⟨rfl, ?_⟩) (fun H2 s2 hL => ?_)
    · obtain ⟨rfl, hx⟩ := y
      obtain ⟨n, hn, rfl⟩ := get_int hx
      refine ⟨_, rfl, .inl ⟨n, rfl, n, rfl, ?_⟩⟩
      exact hN _ _ (Same.refl _) (by rw [List.getElem?_map, List.getElem?_map, hn]; rfl)
    · refine ⟨_, rfl, _, rfl, Dl, _, rfl, .inl (SqL.of hL), 1, _, rfl, rfl, by show 5 ≤ sizeLine; decide, fun h hh => ?_⟩
      have s3 := s1.trans s2
      refine q h Dl _ (s3.trans (same_upd hh)) ⟨0, 0, _, 0, _, by omega, upd_same, (same_upd hh) _ _ hL⟩ (s3.free hh)
/-! ### _law_draw -/
def spDraw : Sp := fun vs H Q _ => ∃ (h c : Addr) (m : Nat), vs = [.ref h, .int (m : Int)] ∧ 1 ≤ m ∧ m ≤ 100000 ∧ HandAt H h c ∧ ∀ (d : Nat) H', d < m → HandAt H' h c → (∀ b, b ≠ h → H' b = H b) → Q (.int (d : Int)) H'
theorem scDraw : FnScope ["_law_hand_here", "_law_many", "_law_cell", "_law_digit", "_law_number"] ["_law_hand_here", "_law_many"] (defScope sDraw) := ⟨rfl, rfl, rfl, by decide +kernel, rfl, by decide +kernel, by decide +kernel⟩
theorem mod_nat {x : Int} {m : Nat} (h : 1 ≤ m) : ∃ d : Nat, d < m ∧ x % (m : Int) = (d : Int) := by
  have h1 := Int.emod_nonneg x (show (m : Int) ≠ 0 by omega)
  have h2 := Int.emod_lt_of_pos x (show (0 : Int) < (m : Int) by omega)
  exact ⟨(x % (m : Int)).toNat, by omega, by omega⟩
theorem mod_bd (x : Int) {m : Int} (h : 0 < m) : 0 ≤ x % m ∧ x % m < m := ⟨Int.emod_nonneg x (by omega), Int.emod_lt_of_pos x h⟩
theorem cl_draw (D : Def K mg "_law_draw" ["_law_hand_here", "_law_many"] sDraw) (T : Txt mg) : Cl P w K mg base 1 "_law_draw" ["_law_hand_here", "_law_many"] spDraw := by
  refine D.cl fun f fd F => F.ok scDraw (fun vs H Q E h => ?_) (fun cdv A outer s H vs Q E hr h => ?_)
  · obtain ⟨h, c, m, rfl, _⟩ := h
    rfl
  · obtain ⟨h, c, m, rfl, m1, m2, hand, q⟩ := h
    refine ⟨_, C8.pss_cut (ps_if (PW.pt (pw_and (pt_cmpR op_eq (pe_ix ix_list (pv 0) pe_int (fun _ _ => rfl)) pe_int (nomark _)) (pw_and1 (pt_cmpR op_lt (pe_ix ix_list (pv 0) pe_int (fun _ _ => rfl)) (pe_callB call_len_seq (by rfl) T.len PySem.boot_len (pa_cons (pe_ix ix_list (pv 0) pe_int (fun _ _ => rfl)) pa_nil)) (nomark _)))))
        (pss_cons (ps_set (i := 2) scDraw.nd rfl (Or.inl rfl) (pe_ix ix_list (pe_ix ix_list (pv 0) pe_int (fun _ _ => rfl)) (pe_ix ix_list (pv 0) pe_int (fun _ _ => rfl)) (fun _ _ => rfl)))
          (pss_cons (ps_asg (pe_op op_add (pe_ix ix_list (pv 0) pe_int (fun _ _ => rfl)) pe_int) (pg_sub (pv 0) pe_int set_list))
          (pss_cons (ps_asg (pe_op op_mod (pe_callTy call_int1 (by rfl) T.int PyProof.Rows.boot_int (pa_cons (pe_op op_add (pe_op op_add (pe_op op_mul (pe_ix ix_list (pv 0) pe_int (fun _ _ => rfl)) pe_int) (pv 2)) pe_int) pa_nil)) pe_int) (pg_sub (pv 0) pe_int set_list))
          (pss_one (ps_if (pt_cmpR op_ge (pv 2) (pe_op op_pow pe_int pe_int) (nomark _)) (pss_one (ps_asg (pv 2) (pg_sub (pv 0) pe_int set_list))) pss_nil)))))
        pss_nil)
      (pss_cons (ps_if (pt_cmpR op_gt (pe_ix ix_list (pv 0) pe_int (fun _ _ => rfl)) pe_int (nomark _))
        (pss_cons (ps_set (i := 3) scDraw.nd rfl (Or.inl rfl) (pe_op op_mod (pe_callTy call_int1 (by rfl) T.int PyProof.Rows.boot_int (pa_cons (pe_ix ix_list (pv 0) pe_int (fun _ _ => rfl)) pa_nil)) (pv 1)))
          (pss_cons (ps_asg (pe_op op_fdiv (pe_ix ix_list (pv 0) pe_int (fun _ _ => rfl)) (pv 1)) (pg_sub (pv 0) pe_int set_list))
          (pss_one (ps_ret (pv 3))))) pss_nil)
      (pss_cons (ps_asg (pe_op op_add (pe_ix ix_list (pv 0) pe_int (fun _ _ => rfl)) pe_int) (pg_sub (pv 0) pe_int set_list))
      (pss_cons (ps_set (i := 4) scDraw.nd rfl (Or.inl rfl) (pe_op op_mod (pe_callTy call_int1 (by rfl) T.int PyProof.Rows.boot_int (pa_cons (pe_op op_mul (pe_callTy call_int1 (by rfl) T.int PyProof.Rows.boot_int (pa_cons (pe_op op_add (pe_ix ix_list (pv 0) pe_int (fun _ _ => rfl)) (pe_op op_mul pe_int (pe_ix ix_list (pv 0) pe_int (fun _ _ => rfl)))) pa_nil)) pe_int) pa_nil)) pe_int))
      (pss_cons (ps_set (i := 4) scDraw.nd rfl (Or.inl rfl) (pe_op op_mod (pe_callTy call_int1 (by rfl) T.int PyProof.Rows.boot_int (pa_cons (pe_op op_mul (pv 4) (pe_op op_add (pe_op op_fdiv (pv 4) pe_int) pe_int)) pa_nil)) pe_int))
      (pss_cons (ps_set (i := 4) scDraw.nd rfl (Or.inl rfl) (pe_op op_mod (pe_callTy call_int1 (by rfl) T.int PyProof.Rows.boot_int (pa_cons (pe_op op_mul (pv 4) (pe_op op_add (pe_op op_fdiv (pv 4) pe_int) pe_int)) pa_nil)) pe_int))
      (pss_one (ps_ret (pe_op op_mod (pe_callTy call_int1 (by rfl) T.int PyProof.Rows.boot_int (pa_cons (pe_op op_fdiv (pv 4) pe_int) pa_nil)) (pv 1))))))))), ?_⟩
    have hne := hand.ne
    refine ⟨fun σ' H' => ∃ y2, σ' = [some (.ref h), some (.int (m : Int)), y2, none, none] ∧ HandAt H' h c ∧ ∀ b, b ≠ h → H' b = H b, ?_, ?_⟩
    · -- the first if
      obtain ⟨a, b, d, e, ns, h0, hh, hc⟩ := id hand
      refine rd_at (j := 2) rfl hh rfl rfl ⟨rfl, _, rfl, ?_⟩
      cases e1 : decide (V.int b = V.int 0) with
      | false => exact iteF (iteF ⟨_, rfl, hand, fun _ _ => rfl⟩)
      | true =>
        refine iteT ?_
        refine rd_at (j := 1) rfl hh rfl rfl ?_
        refine rd_at (j := 0) rfl hh rfl rfl ⟨c, _, rfl, .inl (SqL.of hc), _, _, rfl, rfl, _, rfl, ?_⟩
        cases e2 : decide (a < ((ns.map V.int).length : Int)) with
        | false => exact iteF ⟨_, rfl, hand, fun _ _ => rfl⟩
        | true =>
          refine iteT ?_
          have a2 := of_decide_eq_true e2
          rw [List.length_map] at a2
          obtain ⟨j, rfl⟩ : ∃ j : Nat, a = (j : Int) := ⟨a.toNat, by omega⟩
          have hx : ns[j]? = some (ns.getD j 0) := at_getD (by omega)
          -- cell = hand[0][hand[1]]
          refine rd_at (j := 0) rfl hh rfl rfl ?_
          refine rd_at (j := 1) rfl hh rfl rfl ⟨c, _, _, .int (ns.getD j 0), rfl, rfl, SqL.of hc, at_of (j := j) rfl (by rw [List.getElem?_map, hx]; rfl), ?_⟩
          generalize ns.getD j 0 = x
          -- hand[1] = hand[1] + 1
          refine rd_at (j := 1) rfl hh rfl rfl ⟨_, _, rfl, rfl, ?_⟩
          refine wr_at (j := 1) rfl hh rfl (by simp [hlst]) ?_
          -- hand[3] = ..
          refine rd_at (j := 3) rfl upd_same rfl rfl ⟨_, _, rfl, rfl, .inr ⟨by decide, by decide⟩, ?_⟩
          refine ⟨_, rfl, _, _, rfl, rfl, _, _, rfl, rfl, .inl ⟨_, rfl, _, _, rfl, rfl, (by show (0 : Int) < 2147483629; decide), ?_⟩⟩
          refine wr_at (j := 3) rfl upd_same rfl (by simp [hlst]) ?_
          -- if cell >= 10 ** 18
          refine ⟨_, rfl, _, _, rfl, rfl, ⟨by decide, by decide, by decide⟩, _, _, rfl, rfl, _, rfl, ?_⟩
          refine ite2 (fun _ => ?_) fun _ => ?_
          · refine ⟨_, rfl, ?_⟩
            refine wr_at (j := 2) rfl upd_same rfl (by simp [hlst]) ⟨_, rfl, ⟨_, _, _, _, ns, ?_, upd_same, ?_⟩, fun b' hb' => ?_⟩
            · show (0 : Int) ≤ (j : Int) + 1
              omega
            · rw [upd_ne hne, upd_ne hne, upd_ne hne]; exact hc
            · rw [upd_ne hb', upd_ne hb', upd_ne hb']
          · refine ⟨_, rfl, ⟨_, _, _, _, ns, ?_, upd_same, ?_⟩, fun b' hb' => ?_⟩
            · show (0 : Int) ≤ (j : Int) + 1
              omega
            · rw [upd_ne hne, upd_ne hne]; exact hc
            · rw [upd_ne hb', upd_ne hb']
    · -- behind it
      rintro σ' H' ⟨y2, rfl, hand', kept⟩
      obtain ⟨a, b, d, e, ns, h0, hh, hc⟩ := id hand'
      refine rd_at (j := 2) rfl hh rfl rfl ⟨_, _, rfl, rfl, _, rfl, ?_⟩
      refine ite2 (fun _ => ?_) fun _ => ?_
      · -- a digit of the long number
        refine rd_at (j := 2) rfl hh rfl rfl (.inl ⟨_, rfl, ?_⟩)
        obtain ⟨r, hr1, hr2⟩ := mod_nat (x := b) m1
        refine ⟨_, rfl, _, _, rfl, rfl, (by show (0 : Int) < (m : Int); omega), ?_⟩
        refine rd_at (j := 2) rfl hh rfl rfl ⟨_, rfl, _, _, rfl, rfl, ⟨by omega, by omega⟩, ?_⟩
        refine wr_at (j := 2) rfl hh rfl (by simp [hlst]) ⟨_, rfl, ?_⟩
        show Q (.int (b % (m : Int))) _
        rw [hr2]
        refine q r _ hr1 ⟨a, _, d, e, ns, h0, upd_same, ?_⟩ fun b' hb' => ?_
        · rw [upd_ne hne]; exact hc
        · rw [upd_ne hb']; exact kept b' hb'
      · refine rd_at (j := 4) rfl hh rfl rfl ⟨_, _, rfl, rfl, ?_⟩
        refine wr_at (j := 4) rfl hh rfl (by simp [hlst]) ?_
        have hand2 : HandAt (upd H' h (.lst ((hlst c a b d e).set 4 (.int (e + 1))))) h c := ⟨a, b, d, e + 1, ns, h0, upd_same, by rw [upd_ne hne]; exact hc⟩
        have kept2 : ∀ b', b' ≠ h → upd H' h (.lst ((hlst c a b d e).set 4 (.int (e + 1)))) b' = H b' := fun b' hb' => by rw [upd_ne hb']; exact kept b' hb'
        have hh2 : upd H' h (.lst ((hlst c a b d e).set 4 (.int (e + 1)))) h = some (.lst (hlst c a b d (e + 1))) := upd_same
        revert hand2 kept2 hh2
        generalize upd H' h (.lst ((hlst c a b d e).set 4 (.int (e + 1)))) = H2
        intro hand2 kept2 hh2
        -- number, three times
        try dsimp only
        refine asg_int (fun n => 0 ≤ n ∧ n < 2147483647) (fun Q' k => ?_) fun n1 b1 => ?_
        · refine rd_at (j := 3) rfl hh2 rfl rfl ?_
          refine rd_at (j := 4) rfl hh2 rfl rfl ⟨_, _, rfl, rfl, .inl ⟨by decide, by decide⟩, _, _, rfl, rfl, .inl ⟨_, rfl, ?_⟩⟩
          exact ⟨_, _, rfl, rfl, .inr ⟨by decide, by decide⟩, .inl ⟨_, rfl, _, _, rfl, rfl, (by show (0 : Int) < 2147483647; decide), k _ (mod_bd _ (by decide))⟩⟩
        try dsimp only
        refine asg_int (fun n => 0 ≤ n ∧ n < 2147483647) (fun Q' k => ?_) fun n2 b2 => ?_
        · refine ⟨_, rfl, _, rfl, _, _, rfl, rfl, ⟨by decide, by decide⟩, _, _, rfl, rfl, n1, _, rfl, rfl, .inl ⟨by omega, by omega⟩, ?_⟩
          exact .inl ⟨_, rfl, _, _, rfl, rfl, (by show (0 : Int) < 2147483647; decide), k _ (mod_bd _ (by decide))⟩
        try dsimp only
        refine asg_int (fun n => 0 ≤ n ∧ n < 2147483399) (fun Q' k => ?_) fun n3 b3 => ?_
        · refine ⟨_, rfl, _, rfl, _, _, rfl, rfl, ⟨by decide, by decide⟩, _, _, rfl, rfl, n2, _, rfl, rfl, .inl ⟨by omega, by omega⟩, ?_⟩
          exact .inl ⟨_, rfl, _, _, rfl, rfl, (by show (0 : Int) < 2147483399; decide), k _ (mod_bd _ (by decide))⟩
        -- the answer
        refine ⟨_, rfl, _, _, rfl, rfl, ⟨by decide, by decide⟩, .inl ⟨_, rfl, _, rfl, _, _, rfl, rfl, (by show (0 : Int) < (m : Int); omega), ?_⟩⟩
        obtain ⟨r, hr1, hr2⟩ := mod_nat (x := n3 / 16) m1
        show Q (.int (n3 / 16 % (m : Int))) _
        rw [hr2]
        exact q r _ hr1 hand2 kept2
end
end LK
namespace LK
open PySem PySem.Spec PyProof.Rows L2 MR KM
section
variable {K : PySem.W.Frag} {base : Heap} {mg : Str → Option Value} {P : Program} {w : World}
/-! ### _law_is: of one int or bool with itself; of two lists (two tuples) of such -/
def Flat (x : V) : Prop := (∃ i, x = .int i) ∨ ∃ b, x = .bl b
def spIs1 : Sp := fun vs H Q _ => ∃ x : V, vs = [x, x] ∧ Flat x ∧ ∀ H', Same H H' → Q (.bl true) H'
theorem scIs : FnScope ["_law_told", "_law_due", "_law_one", "_law_two"] ["_law_told", "_law_due"] (defScope sIs) := ⟨rfl, rfl, rfl, by decide +kernel, rfl, by decide +kernel, by decide +kernel⟩
theorem two_ty : Paired ClsV [V.ty "tuple", V.ty "list"] [Value.type "tuple", Value.type "list"] := .cons (.ty _) (.cons (.ty _) .nil)
theorem kit2 {K : PySem.W.Frag} {T : String} {a b : Bool} (h1 : kitB T "tuple" = some a) (h2 : kitB T "list" = some b) : PySem.W.kitAny K (.type T) [Value.type "tuple", Value.type "list"] = some (a || b) :=
  kitAny_cons (kit_ty h1) (fun e => by subst e; exact kitAny_cons (kit_ty h2) (fun e => by subst e; exact kitAny_nil) fun e => by subst e; rfl) fun e => by subst e; rfl
theorem flat_ty {K : PySem.W.Frag} {H : Hp} {x : V} (h : Flat x) : ∃ T b, TyX K H x (.type T) ∧ kitB T "tuple" = some false ∧ kitB T "list" = some false ∧ kitB T "bool" = some b := by
  rcases h with ⟨i, rfl⟩ | ⟨b, rfl⟩
  · exact ⟨"int", false, .base (.int i), by decide +kernel, by decide +kernel, by decide +kernel⟩
  · exact ⟨"bool", true, .base (.bl b), by decide +kernel, by decide +kernel, by decide +kernel⟩
theorem cl_is1 (D : Def K mg "_law_is" ["_law_told", "_law_due"] sIs) (T : Txt mg) : Cl P w K mg base 1 "_law_is" ["_law_told", "_law_due"] spIs1 := by
  refine D.cl fun f fd F => F.ok scIs (fun vs H Q E h => ?_) (fun cdv A outer s H vs Q E hr h => ?_)
  · obtain ⟨x, rfl, _⟩ := h
    rfl
  · obtain ⟨x, rfl, hx, q⟩ := h
    refine ⟨_, pss_cons (ps_if (pt_val (pe_callB call_isiT (by rfl) T.isi PyProof.Rows.boot_isinstance (pa_cons (pv 1) (pa_cons (pe_tup (pa_cons (pe_bltn (v := .ty "tuple") (by rfl) T.tup PyProof.Rows.boot_tuple rfl) (pa_cons (pe_bltn (v := .ty "list") (by rfl) T.list PyProof.Rows.boot_list rfl) pa_nil))) pa_nil)))) pss_never pss_nil)
      (pss_one (ps_ret (pe_and (pe_cmpR op_eq (pe_callB call_isi (by rfl) T.isi PyProof.Rows.boot_isinstance (pa_cons (pv 0) (pa_cons (pe_bltn (v := .ty "bool") (by rfl) T.bool PyProof.Rows.boot_bool rfl) pa_nil)))
          (pe_callB call_isi (by rfl) T.isi PyProof.Rows.boot_isinstance (pa_cons (pv 1) (pa_cons (pe_bltn (v := .ty "bool") (by rfl) T.bool PyProof.Rows.boot_bool rfl) pa_nil))) (nomark _))
        (pe_one (pe_cmpR op_eq (pv 0) (pv 1) (nomark _)))))), ?_⟩
    refine ⟨_, rfl, by show 2 ≤ sizeLine; decide, fun z hz => ?_⟩
    obtain ⟨ty, b, h1, k1, k2, k3⟩ := flat_ty (K := K) (H := upd H z (.tup [V.ty "tuple", V.ty "list"])) hx
    refine ⟨_, z, _, _, _, false, rfl, upd_same, two_ty, h1, kit2 k1 k2, false, rfl, iteF ?_⟩
    refine ⟨_, rfl, _, _, _, _, b, rfl, .ty "bool", h1, kit_ty k3, ?_⟩
    refine ⟨_, rfl, _, _, _, _, b, rfl, .ty "bool", h1, kit_ty k3, rfl, true, ?_, iteT ?_⟩
    · rw [decide_eq_true rfl]
    · refine ⟨_, rfl, _, rfl, ?_, ?_⟩
      · rcases hx with ⟨i, rfl⟩ | ⟨b, rfl⟩ <;> rfl
      · show Q (.bl (decide (x = x))) _
        rw [decide_eq_true rfl]
        exact q _ (same_upd hz)
/-- two lists, or two tuples, of the items xs -/
def Twin (K : PySem.W.Frag) (H : Hp) (x y : V) (xs : List V) : Prop := ∃ a b, x = .ref a ∧ y = .ref b ∧ ((H a = some (.lst xs) ∧ H b = some (.lst xs)) ∨ (SqT K H a xs ∧ SqT K H b xs))
def spIsN (K : PySem.W.Frag) : Sp := fun vs H Q _ => ∃ (x y : V) (xs : List V), vs = [x, y] ∧ Twin K H x y xs ∧ xs.length ≤ 1000 ∧ (∀ v ∈ xs, Flat v) ∧ ∀ H', Same H H' → Q (.bl true) H'
theorem cl_isN (D : Def K mg "_law_is" ["_law_told", "_law_due"] sIs) (T : Txt mg) (c1 : Cl P w K mg base 1 "_law_is" ["_law_told", "_law_due"] spIs1) : Cl P w K mg base 2 "_law_is" ["_law_told", "_law_due"] (spIsN K) := by
  refine D.cl fun f fd F => F.ok scIs (fun vs H Q E h => ?_) (fun cdv A outer s H vs Q E hr h => ?_)
  · obtain ⟨x, y, xs, rfl, _⟩ := h
    rfl
  · obtain ⟨x, y, xs, rfl, ⟨a, b, rfl, rfl, tw⟩, hz, hx, q⟩ := h
    refine ⟨_, pss_cons (ps_if (pt_val (pe_callB call_isiT (by rfl) T.isi PyProof.Rows.boot_isinstance (pa_cons (pv 1) (pa_cons (pe_tup (pa_cons (pe_bltn (v := .ty "tuple") (by rfl) T.tup PyProof.Rows.boot_tuple rfl) (pa_cons (pe_bltn (v := .ty "list") (by rfl) T.list PyProof.Rows.boot_list rfl) pa_nil))) pa_nil))))
        (pss_cons (ps_if (PW.pt (pw_or (pt_cmpR op_ne (pe_callB call_isi (by rfl) T.isi PyProof.Rows.boot_isinstance (pa_cons (pv 0) (pa_cons (pe_bltn (v := .ty "tuple") (by rfl) T.tup PyProof.Rows.boot_tuple rfl) pa_nil)))
              (pe_callB call_isi (by rfl) T.isi PyProof.Rows.boot_isinstance (pa_cons (pv 1) (pa_cons (pe_bltn (v := .ty "tuple") (by rfl) T.tup PyProof.Rows.boot_tuple rfl) pa_nil))) (nomark _))
            (pw_or1 (pt_not (pt_val (pe_callB call_isiT (by rfl) T.isi PyProof.Rows.boot_isinstance (pa_cons (pv 0) (pa_cons (pe_tup (pa_cons (pe_bltn (v := .ty "tuple") (by rfl) T.tup PyProof.Rows.boot_tuple rfl) (pa_cons (pe_bltn (v := .ty "list") (by rfl) T.list PyProof.Rows.boot_list rfl) pa_nil))) pa_nil)))))))) pss_never pss_nil)
          (pss_one (ps_ret (pe_and (pe_cmpR op_eq (pe_callB call_len_seq (by rfl) T.len PySem.boot_len (pa_cons (pv 0) pa_nil)) (pe_callB call_len_seq (by rfl) T.len PySem.boot_len (pa_cons (pv 1) pa_nil)) (nomark _))
            (pe_one (pe_callB (cr_all rfl) (by rfl) T.all (by decide +kernel) (pa_cons
              (pe_lc (own := [("_law_one", 2), ("_law_two", 3)]) (g := gTup K 2 (gCons (gName 2) (gCons (gName 3) gNil))) (tt := tYes) rfl scIs.nd (RZ.pi_zipA (by rfl) T.zip (pa_cons (pv 0) (pa_cons (pv 1) pa_nil))) (blkOk_by (own := [("_law_one", 2), ("_law_two", 3)]) (N := ["_law_told", "_law_due", "_law_one", "_law_two"]) (sc := defScope sIs) (by decide +kernel))
                (fun _ _ _ _ _ => pg_tup rfl (pgs_cons (pg_name (i := 2) scIs.nd rfl (Or.inl rfl)) (pgs_cons (pg_name (i := 3) scIs.nd rfl (Or.inl rfl)) pgs_nil))) (fun _ _ _ _ _ => pts_nil)
                (fun _ _ _ _ _ => pe_cl c1 hr (by rfl) (pa_cons (pv 2) (pa_cons (pv 3) pa_nil)))) pa_nil))))))) pss_nil) pss_never, ?_⟩
    -- the kind of both
    have kinds : ∃ ty k1 k2, (∀ H', Same H H' → TyX K H' (.ref a) (.type ty) ∧ TyX K H' (.ref b) (.type ty)) ∧ kitB ty "tuple" = some k1 ∧ kitB ty "list" = some k2 ∧ (k1 || k2) = true := by
      rcases tw with ⟨ha, hb⟩ | ⟨ha, hb⟩
      · exact ⟨"list", false, true, fun H' s1 => ⟨.base (.lst (s1 _ _ ha)), .base (.lst (s1 _ _ hb))⟩, by decide +kernel, by decide +kernel, rfl⟩
      · exact ⟨"tuple", true, false, fun H' s1 => ⟨tyx_tup (smT s1 ha), tyx_tup (smT s1 hb)⟩, by decide +kernel, by decide +kernel, rfl⟩
    obtain ⟨ty, k1, k2, tys, kt, kl, ko⟩ := kinds
    have sq : ∀ H', Same H H' → (SqL K H' a xs ∨ SqT K H' a xs) ∧ (SqL K H' b xs ∨ SqT K H' b xs) := fun H' s1 => by
      rcases tw with ⟨ha, hb⟩ | ⟨ha, hb⟩
      · exact ⟨.inl (SqL.of (s1 _ _ ha)), .inl (SqL.of (s1 _ _ hb))⟩
      · exact ⟨.inr (smT s1 ha), .inr (smT s1 hb)⟩
    refine ⟨_, rfl, by show 2 ≤ sizeLine; decide, fun z hz' => ?_⟩
    have s1 : Same H (upd H z (.tup [V.ty "tuple", V.ty "list"])) := same_upd hz'
    have kk := kit2 (K := K) kt kl
    rw [ko] at kk
    refine ⟨_, z, _, _, _, true, rfl, upd_same, two_ty, (tys _ s1).2, kk, true, rfl, iteT ?_⟩
    refine ⟨_, rfl, _, _, _, _, k1, rfl, .ty "tuple", (tys _ s1).1, kit_ty kt, ?_⟩
    refine ⟨_, rfl, _, _, _, _, k1, rfl, .ty "tuple", (tys _ s1).2, kit_ty kt, rfl, false, ?_, iteF ?_⟩
    · rw [decide_eq_true rfl]
      rfl
    refine ⟨_, rfl, by show 2 ≤ sizeLine; decide, fun z2 hz2 => ?_⟩
    have s2 := s1.trans (same_upd (o := .tup [V.ty "tuple", V.ty "list"]) hz2)
    refine ⟨_, z2, _, _, _, true, rfl, upd_same, two_ty, (tys _ s2).1, kk, true, rfl, iteF ?_⟩
    -- the lengths, the items
    refine ⟨_, rfl, a, xs, rfl, (sq _ s2).1, _, rfl, b, xs, rfl, (sq _ s2).2, rfl, true, by rw [decide_eq_true rfl], iteT ?_⟩
    have item : ∀ (i : Nat) (p : V × V), (xs.zip xs)[i]? = some p → p.1 = p.2 ∧ Flat p.1 := fun i p hp => by
      obtain ⟨h1, h2⟩ := zip_at hp
      exact ⟨Option.some.inj (h1.symm.trans h2), hx _ (List.mem_of_getElem? h1)⟩
    have fin : ∀ (D : Addr) (H2 : Hp), Same H H2 → H2 D = some (.lst (xs.map fun _ => V.bl true)) → rAll K [V.ref D] H2 Q := fun D H2 s3 hL => by
      refine ⟨D, xs.map fun _ => true, rfl, SqL.of (by rw [hL, List.map_map]; rfl), ?_⟩
      rw [show (xs.map fun _ => true).all id = true by simp]
      exact q H2 s3
    refine ⟨_, rfl, _, rfl, a, b, xs, xs, rfl, ?_⟩
    rcases tw with ⟨ha, hb⟩ | ⟨ha, hb⟩
    · refine .inl ⟨SqL.of (s2 _ _ ha), SqL.of (s2 _ _ hb), fun D hD => lc_vals (walk_zip rfl) (xs.map fun _ => V.bl true) (by simp) (by omega) hD (fun H' s3 => ⟨SqL.of (s3 _ _ (s2 _ _ ha)), SqL.of (s3 _ _ (s2 _ _ hb))⟩) (fun i x H2 H2' hi s3 y N hN => ?_) (fun H2 s3 hL => fin D H2 (s2.trans s3) hL)⟩
      obtain ⟨T', u, v, rfl, hn, rfl, h1, h2⟩ := y
      have h1 : xs[i]? = some u := h1
      obtain ⟨e, fl⟩ := item i (u, v) (List.getElem?_zip_eq_some.mpr ⟨h1, h2⟩)
      have e' : u = v := e
      subst e'
      refine pair_slots ⟨rfl, ?_⟩
      exact ⟨_, rfl, _, rfl, u, rfl, fl, fun H4 s4 => hN _ _ ((same_upd hn).trans s4) (by rw [List.getElem?_map, h1]; rfl)⟩
    · refine .inr ⟨smT s2 ha, smT s2 hb, fun D hD => lc_vals walk_zipT (xs.map fun _ => V.bl true) (by simp) (by simp; omega) hD (fun H' s3 => ⟨smT s3 (smT s2 ha), smT s3 (smT s2 hb)⟩) (fun i x H2 H2' hi s3 y N hN => ?_) (fun H2 s3 hL => fin D H2 (s2.trans s3) hL)⟩
      obtain ⟨T', ⟨u, v⟩, rfl, hn, rfl, hp⟩ := y
      obtain ⟨e, fl⟩ := item i (u, v) hp
      have h1 : xs[i]? = some u := (zip_at hp).1
      have e' : u = v := e
      subst e'
      refine pair_slots ⟨rfl, ?_⟩
      exact ⟨_, rfl, _, rfl, u, rfl, fl, fun H4 s4 => hN _ _ ((same_upd hn).trans s4) (by rw [List.getElem?_map, h1]; rfl)⟩
/-! ### _law_are_below -/
theorem scBelow : FnScope ["_law_one", "_law_other", "_law_k"] ["_law_one", "_law_other"] (defScope sBelow) := ⟨rfl, rfl, rfl, by decide +kernel, rfl, by decide +kernel, by decide +kernel⟩
theorem cl_below (D : Def K mg "_law_are_below" ["_law_one", "_law_other"] sBelow) (T : Txt mg) : Cl P w K mg base 1 "_law_are_below" ["_law_one", "_law_other"] (spAtMost K) := by
  refine D.cl fun f fd F => F.ok scBelow (fun vs H Q E h => ?_) (fun cdv A outer s H vs Q E hr h => ?_)
  · obtain ⟨x, y, a, b, rfl, _⟩ := h
    rfl
  · obtain ⟨x, y, a, b, rfl, ⟨p, rfl, hp⟩, ⟨p', rfl, hp'⟩, hl, hz, q⟩ := h
    refine ⟨_, pss_one (ps_ret (pe_callB (cr_all rfl) (by rfl) T.all (by decide +kernel) (pa_cons
          (pe_lc (own := [("_law_k", 2)]) (g := gName 2) (tt := tYes) rfl scBelow.nd (pi_range1 (by rfl) T.rng (pa_cons (pe_callB call_len_seq (by rfl) T.len PySem.boot_len (pa_cons (pv 0) pa_nil)) pa_nil)) (blkOk_by (own := [("_law_k", 2)]) (N := ["_law_one", "_law_other", "_law_k"]) (sc := defScope sBelow) (by decide +kernel))
            (fun _ _ _ _ _ => pg_name (i := 2) scBelow.nd rfl (Or.inl rfl)) (fun _ _ _ _ _ => pts_nil)
            (fun _ _ _ _ _ => pe_cmpR op_le (pe_ix (ix_tupK (K := K) rfl) (pv 0) (pv 2) (fun _ _ => rfl)) (pe_ix (ix_tupK (K := K) rfl) (pv 1) (pv 2) (fun _ _ => rfl)) (nomark _))) pa_nil))), ?_⟩
    refine ⟨_, rfl, p, _, rfl, .inr hp, ((a.map V.int).length : Nat), rfl, by rw [List.length_map]; omega, by rw [List.length_map]; omega, fun D hD => ?_⟩
    refine lc_vals walk_range (List.zipWith (fun x y => V.bl (decide (x ≤ y))) a b) (by simp; omega) (by simp; omega) hD (fun _ _ => trivial) (fun i x H2 H2' hi s1 y N hN => ?_) (fun H2 s2 hL => ?_)
    · obtain ⟨rfl, rfl⟩ := y
      simp only [List.length_map, Int.toNat_natCast] at hi
      have h1 := at_getD (l := a) (i := i) hi
      have h2 := at_getD (l := b) (i := i) (by omega)
      refine ⟨rfl, ?_⟩
      refine ⟨_, rfl, _, rfl, p, _, _, .int (a.getD i 0), rfl, rfl, smT s1 hp, at_of (j := i) (by omega) (by rw [List.getElem?_map, h1]; rfl), ?_⟩
      refine ⟨_, rfl, _, rfl, p', _, _, .int (b.getD i 0), rfl, rfl, smT s1 hp', at_of (j := i) (by omega) (by rw [List.getElem?_map, h2]; rfl), _, _, rfl, rfl, ?_⟩
      exact hN _ _ (Same.refl _) (by rw [List.getElem?_zipWith, h1, h2])
    · refine ⟨D, List.zipWith (fun x y => decide (x ≤ y)) a b, rfl, SqL.of (by rw [hL, List.map_zipWith]), ?_⟩
      exact q H2 s2
end
end LK
namespace LK
open PySem PySem.Spec PyProof.Rows L2 MR KM
/-- a change at a list that is no tuple keeps the tuples -/
theorem atL {K : PySem.W.Frag} {H : Hp} {f u : Addr} {l xs : List V} {o : HO} (h : H f = some (.lst l)) (t : SqT K H u xs) : SqT K (upd H f o) u xs := by
  rcases t with (q | ⟨z, q⟩) | q
  · refine Or.inl (Or.inl ?_)
    rw [upd_ne (ne_of q h (by intro y; cases y))]
    exact q
  · refine Or.inl (Or.inr ⟨z, ?_⟩)
    rw [upd_ne (ne_of q h (by intro y; cases y))]
    exact q
  · exact Or.inr q
section
variable {K : PySem.W.Frag} {base : Heap} {mg : Str → Option Value} {P : Program} {w : World}
/-! ### _law_step -/
def spLStep (K : PySem.W.Frag) : Sp := fun vs H Q _ => ∃ (lv st : V) (many : Nat) (lots : List (List Int)) (c : List Int) (k : Nat), vs = [lv, st, .int (k : Int)] ∧ TTI K H lv lots ∧ TI K H st c ∧ many ≤ 3 ∧ lots.length ≤ 12 ∧ (∀ l ∈ lots, l.length = many) ∧
  c.length = many ∧ k < many ∧ ∀ v H', Same H H' → StepTo K H' v (stepOk lots c k) (stepC lots c k) → Q v H'
theorem scLStep : FnScope ["_law_lots", "_law_counts_here", "_law_kind", "_law_more", "_law_lot"] ["_law_lots", "_law_counts_here", "_law_kind"] (defScope sLStep) := ⟨rfl, rfl, rfl, by decide +kernel, rfl, by decide +kernel, by decide +kernel⟩
theorem cl_lstep (D : Def K mg "_law_step" ["_law_lots", "_law_counts_here", "_law_kind"] sLStep) (T : Txt mg) (cb : Cl P w K mg base 1 "_law_are_below" ["_law_one", "_law_other"] (spAtMost K)) :
    Cl P w K mg base 2 "_law_step" ["_law_lots", "_law_counts_here", "_law_kind"] (spLStep K) := by
  refine D.cl fun f fd F => F.ok scLStep (fun vs H Q E h => ?_) (fun cdv A outer s H vs Q E hr h => ?_)
  · obtain ⟨lv, st, many, lots, c, k, rfl, _⟩ := h
    rfl
  · obtain ⟨lv, st, many, lots, c, k, rfl, tt, ⟨sa, rfl, hsa⟩, m3, h12, hlen, hc, hk, q⟩ := h
    refine ⟨_, pss_cons (ps_set (i := 3) scLStep.nd rfl (Or.inr rfl) (pe_op op_catA (pe_op op_catA (pe_slice sl_tupA (pv 1) po_none (po_some (pv 2))) (pe_tup (pa_cons (pe_op op_add (pe_ix ix_tup (pv 1) (pv 2) (fun _ _ => rfl)) pe_int) pa_nil)))
        (pe_slice sl_tupA (pv 1) (po_some (pe_op op_add (pv 2) pe_int)) po_none)))
      (pss_cons (ps_if (pt_val (pe_callB (cr_any rfl) (by rfl) T.any (by decide +kernel) (pa_cons
          (pe_lc (own := [("_law_lot", 4)]) (g := gName 4) (tt := tYes) rfl scLStep.nd (pi_tup (pv 0)) (blkOk_by (own := [("_law_lot", 4)]) (N := ["_law_lots", "_law_counts_here", "_law_kind", "_law_more", "_law_lot"]) (sc := defScope sLStep) (by decide +kernel))
            (fun _ _ _ _ _ => pg_name (i := 4) scLStep.nd rfl (Or.inl rfl)) (fun _ _ _ _ _ => pts_nil)
            (fun _ _ _ _ _ => pe_cl cb hr (by rfl) (pa_cons (pv 4) (pa_cons (pv 3) pa_nil)))) pa_nil)))
          (pss_one (ps_ret (pe_tup (pa_cons pe_bl (pa_cons (pv 1) pa_nil))))) pss_nil)
      (pss_one (ps_ret (pe_tup (pa_cons pe_bl (pa_cons (pv 3) pa_nil)))))), ?_⟩
    refine withOne_read (i := 1) (j := 2) rfl rfl hsa (by omega) (by omega) fun mv H1 s1 tm => ?_
    obtain ⟨a, xs, rfl, hT, hxl, hx⟩ := id (tt.mono s1)
    refine ⟨_, rfl, a, rfl, ⟨_, hT⟩, fun Dl hD => ?_⟩
    refine lc_vals walk_tup (lots.map fun l => V.bl (below l (inc c k))) (by simp; omega) (by omega) hD (fun H' s2 => smT s2 hT) (fun j x H2 H2' hj s2 y N hN => ⟨rfl, ?_⟩) (fun H2 s2 hL => ?_)
    · obtain ⟨rfl, hxj⟩ := y
      obtain ⟨l, hl⟩ : ∃ l, lots[j]? = some l := ⟨_, get_at (by omega)⟩
      have ll := hlen l (List.mem_of_getElem? hl)
      exact ⟨_, rfl, _, rfl, x, mv, l, _, rfl, (hx j x l hxj hl).mono s2, tm.mono s2, by rw [inc_len, hc, ll], by omega, fun H3 s3 => hN _ _ s3 (by rw [List.getElem?_map, hl]; rfl)⟩
    · refine ⟨Dl, lots.map fun l => below l (inc c k), rfl, SqL.of (by rw [hL, List.map_map]; rfl), ?_⟩
      have e : (lots.map fun l => below l (inc c k)).any id = !stepOk lots c k := by
        unfold stepOk
        rw [Bool.not_not, List.any_map]
        rfl
      rw [e]
      refine ⟨_, rfl, ?_⟩
      have s3 := s1.trans s2
      cases hb : stepOk lots c k with
      | false =>
        refine iteT ⟨_, rfl, by show 2 ≤ sizeLine; decide, fun z hz => q _ _ (s3.trans (same_upd hz)) ⟨z, _, rfl, .inl (.inl (by rw [hb]; exact upd_same)), sa, rfl, ?_⟩⟩
        have e2 : stepC lots c k = c := by
          unfold stepC
          rw [hb]
          rfl
        rw [e2]
        exact smT (same_upd hz) (smT s3 hsa)
      | true =>
        refine iteF ⟨_, rfl, by show 2 ≤ sizeLine; decide, fun z hz => q _ _ (s3.trans (same_upd hz)) ⟨z, _, rfl, .inl (.inl (by rw [hb]; exact upd_same)), ?_⟩⟩
        have e2 : stepC lots c k = inc c k := by
          unfold stepC
          rw [hb]
          rfl
        rw [e2]
        exact (tm.mono s2).mono (same_upd hz)
/-! ### _law_through -/
def spThrough (K : PySem.W.Frag) : Sp := fun vs H Q _ => ∃ (lv rv : V) (many : Nat) (lots : List (List Int)) (row : List Nat), vs = [.int (many : Int), lv, rv] ∧ TTI K H lv lots ∧ TI K H rv (iz row) ∧ many ≥ 1 ∧ many ≤ 3 ∧ lots.length ≤ 12 ∧ (∀ l ∈ lots, l.length = many) ∧ row.length ≤ 200 ∧ (∀ k ∈ row, k < many) ∧
  ∀ p f s H', Same H H' → H f = none → SqT K H' p [.ref f, s] → H' f = some (.lst ((flags lots (zeros many) row).map V.bl)) → TI K H' s (cnt lots (zeros many) row) → Q (.ref p) H'
theorem scThrough : FnScope ["_law_many", "_law_lots", "_law_row", "_law_counts_here", "_law_flags", "_law_kind", "_law_flag"] ["_law_many", "_law_lots", "_law_row"] (defScope sThrough) := ⟨rfl, rfl, rfl, by decide +kernel, rfl, by decide +kernel, by decide +kernel⟩
theorem cl_through (D : Def K mg "_law_through" ["_law_many", "_law_lots", "_law_row"] sThrough) (cs : Cl P w K mg base 2 "_law_step" ["_law_lots", "_law_counts_here", "_law_kind"] (spLStep K)) : Cl P w K mg base 3 "_law_through" ["_law_many", "_law_lots", "_law_row"] (spThrough K) := by
  refine D.cl fun f fd F => F.ok scThrough (fun vs H Q E h => ?_) (fun cdv A outer s H vs Q E hr h => ?_)
  · obtain ⟨lv, rv, many, lots, row, rfl, _⟩ := h
    rfl
  · obtain ⟨lv, rv, many, lots, row, rfl, tt, ⟨a, rfl, hT⟩, m1, m3, h12, hlen, short, kinds, q⟩ := h
    refine ⟨_, pss_cons (ps_set (i := 3) scThrough.nd rfl (Or.inl rfl) (pe_op op_repA (pe_tup (pa_cons pe_int pa_nil)) (pv 0)))
      (pss_cons (ps_set (i := 4) scThrough.nd rfl (Or.inl rfl) (pe_lst pa_nil))
      (pss_cons (ps_for PassesOwn.never rfl (pi_tup (pv 2)) (pg_name (i := 5) scThrough.nd rfl (Or.inl rfl))
        (pss_cons (ps_asg (pe_cl cs hr (by rfl) (pa_cons (pv 1) (pa_cons (pv 3) (pa_cons (pv 5) pa_nil)))) (pg_tup rfl (pgs_cons (pg_name (i := 6) scThrough.nd rfl (Or.inl rfl)) (pgs_cons (pg_name (i := 3) scThrough.nd rfl (Or.inl rfl)) pgs_nil))))
          (pss_one (ps_expr (pe_bm PySem.F.plainAttrs_list PySem.F.slot_list_append PySem.F.type_list_append mt_append (pv 4) (pa_cons (pv 6) pa_nil))))))
      (pss_one (ps_ret (pe_tup (pa_cons (pv 4) (pa_cons (pv 3) pa_nil))))))), ?_⟩
    refine ⟨(by show 1 ≤ sizeLine; decide), fun z hz => ?_⟩
    have sz : Same H (upd H z (.tup [V.int 0])) := same_upd hz
    refine ⟨_, rfl, z, (many : Int), [V.int 0], rfl, rfl, .inl (.inl upd_same), by simp, by omega, by omega, by show 1 ≤ 1000; decide, fun v H' s2 hv => ?_⟩
    obtain ⟨r, rfl, hr'⟩ := hv
    rw [zeros_rep] at hr'
    have s3 := sz.trans s2
    refine ⟨Nat.zero_le _, fun f nf => ?_⟩
    have s0 := s3.trans (same_upd (o := .lst []) nf)
    have nf0 := s3.free nf
    refine ⟨.ref a, rfl, a, rfl, ⟨_, smT s0 hT⟩, for_it walk_tup (fun i σ H2 => ∃ st y5 y6, σ = [some (.int (many : Int)), some lv, some (.ref a), some st, some (.ref f), y5, y6] ∧ Same H H2 ∧ H2 f = some (.lst ((flags lots (zeros many) (row.take i)).map V.bl)) ∧ TI K H2 st (cnt lots (zeros many) (row.take i)))
      ⟨.ref r, none, none, rfl, s0, upd_same, r, rfl, smT (same_upd nf) hr'⟩ (fun i σ H2 _ ⟨_, _, _, _, s4, _⟩ => smT s4 hT) (fun i x σ H2 H2' hi p y => ?_) (fun σ H2 p => ?_)⟩
    · obtain ⟨st, y5, y6, rfl, s4, hf, ts⟩ := p
      obtain ⟨rfl, hx⟩ := y
      obtain ⟨n, hn, rfl⟩ := get_int hx
      obtain ⟨k, hk, rfl⟩ := get_iz hn
      have kl := kinds k (List.mem_of_getElem? hk)
      refine ⟨_, rfl, _, rfl, _, rfl, lv, st, many, lots, cnt lots (zeros many) (row.take i), k, rfl, tt.mono s4, ts, m3, h12, hlen, by rw [cnt_len, zeros_len], kl, fun v H3 s5 hv => ?_⟩
      obtain ⟨p, s', rfl, hp, b, rfl, hb⟩ := hv
      have s6 := s4.trans s5
      have hf3 := s5 _ _ hf
      refine ⟨p, _, rfl, hp, rfl, _, _, rfl, .ref b, [], rfl, rfl, ?_⟩
      refine ⟨.ref f, rfl, .inl ⟨rfl, _, SqL.of hf3⟩, _, rfl, f, _, _, rfl, rfl, hf3, small1000 (by rw [List.length_map, flags_len, List.length_take]; omega), ?_⟩
      refine ⟨.ref b, _, _, rfl, smMut s6 nf0, ?_, b, rfl, ?_⟩
      · rw [upd_same, KM.take_snoc hk, flags_snoc, List.map_append]
        rfl
      · rw [KM.take_snoc hk, cnt_snoc]
        exact atL hf3 hb
    · obtain ⟨st, y5, y6, rfl, s4, hf, ts⟩ := p
      rw [List.length_map, iz_len, List.take_of_length_le (Nat.le_refl _)] at hf ts
      refine ⟨_, rfl, _, rfl, by show 2 ≤ sizeLine; decide, fun y hy => ?_⟩
      exact q y f st _ (s4.trans (same_upd hy)) nf0 (.inl (.inl upd_same)) ((same_upd hy) _ _ hf) (ts.mono (same_upd hy))
/-! ### _law_kind_row -/
def spKindRow (K : PySem.W.Frag) : Sp := fun vs H Q _ => ∃ (h c : Addr) (many : Nat), vs = [.ref h, .int (many : Int), .int 30] ∧ 1 ≤ many ∧ many ≤ 3 ∧ HandAt H h c ∧ ∀ v H' row, But h H H' → HandAt H' h c → TI K H' v (iz row) → row.length ≤ 30 → (∀ k ∈ row, k < many) → Q v H'
theorem scKindRow : FnScope ["_law_hand_here", "_law_many", "_law_most", "_law_turn"] ["_law_hand_here", "_law_many", "_law_most"] (defScope sKindRow) := ⟨rfl, rfl, rfl, by decide +kernel, rfl, by decide +kernel, by decide +kernel⟩
theorem cl_kindRow (D : Def K mg "_law_kind_row" ["_law_hand_here", "_law_many", "_law_most"] sKindRow) (T : Txt mg) (cd : Cl P w K mg base 1 "_law_draw" ["_law_hand_here", "_law_many"] spDraw) : Cl P w K mg base 2 "_law_kind_row" ["_law_hand_here", "_law_many", "_law_most"] (spKindRow K) := by
  refine D.cl fun f fd F => F.ok scKindRow (fun vs H Q E h => ?_) (fun cdv A outer s H vs Q E hr h => ?_)
  · obtain ⟨h, c, many, rfl, _⟩ := h
    rfl
  · obtain ⟨h, c, many, rfl, m1, m3, hand, q⟩ := h
    refine ⟨_, pss_one (ps_ret (pe_callTy call_tuple_of (by rfl) T.tup PyProof.Rows.boot_tuple (pa_cons
      (pe_lc (own := [("_law_turn", 3)]) (g := gName 3) (tt := tYes) rfl scKindRow.nd (pi_range1 (by rfl) T.rng (pa_cons (pe_cl cd hr (by rfl) (pa_cons (pv 0) (pa_cons (pe_op op_add (pv 2) pe_int) pa_nil))) pa_nil)) (blkOk_by (own := [("_law_turn", 3)]) (N := ["_law_hand_here", "_law_many", "_law_most", "_law_turn"]) (sc := defScope sKindRow) (by decide +kernel))
        (fun _ _ _ _ _ => pg_name (i := 3) scKindRow.nd rfl (Or.inl rfl)) (fun _ _ _ _ _ => pts_nil)
        (fun _ _ _ _ _ => pe_cl cd hr (by rfl) (pa_cons (pv 0) (pa_cons (pv 1) pa_nil)))) pa_nil))), ?_⟩
    refine ⟨_, rfl, _, rfl, _, _, rfl, rfl, h, c, 31, rfl, by decide, by decide, hand, fun d H1 hd hand1 kept => ?_⟩
    refine ⟨(d : Int), rfl, by omega, by omega, fun Dl hD => ?_⟩
    obtain ⟨nh, nc⟩ := hand1.new hD
    have b1 : But h H H1 := but_eq kept
    refine lc_yes walk_range (fun i H2 => But h H1 H2 ∧ HandAt H2 h c ∧ ∃ row : List Nat, H2 Dl = some (.lst ((iz row).map V.int)) ∧ row.length = i ∧ ∀ k ∈ row, k < many)
      ⟨But.of (same_upd hD), hand1.upd nh nc, [], upd_same, rfl, fun k hk => absurd hk (by simp)⟩ (fun _ _ _ _ => trivial) (fun i x H2 H2' hi p y => ?_) (fun H2 p => ?_)
    · obtain ⟨b2, hand2, row, hL, hl, hk⟩ := p
      obtain ⟨rfl, rfl⟩ := y
      simp only [Int.toNat_natCast] at hi
      refine ⟨rfl, _, rfl, _, rfl, h, c, many, rfl, m1, by omega, hand2, fun k H3 hk3 hand3 kept3 => ?_⟩
      refine ⟨_, (kept3 Dl nh).trans hL, small1000 (by simp [iz_len]; omega), butMut (b2.trans (but_eq kept3)) hD, hand3.upd nh nc, row ++ [k], ?_, by simp [hl], fun k' hk' => ?_⟩
      · rw [upd_same]
        simp [iz]
      · rcases List.mem_append.mp hk' with z | z
        · exact hk k' z
        · cases List.mem_singleton.mp z
          exact hk3
    · obtain ⟨b2, hand2, row, hL, hl, hk⟩ := p
      simp only [Int.toNat_natCast] at hl
      refine ⟨Dl, _, rfl, .inl ⟨SqL.of hL, fun l hn => ?_⟩⟩
      obtain ⟨n1, n2⟩ := hand2.new hn
      exact q _ _ row ((b1.trans b2).trans (But.of (same_upd hn))) (hand2.upd n1 n2) ⟨l, rfl, .inl (.inl upd_same)⟩ (by omega) hk
end
end LK
namespace LK
open PySem PySem.Spec PyProof.Rows L2 MR KM
theorem menu : ∀ d, d < 8 → 0 ≤ ([0, 0, 1, 1, 2, 3, 4, 2] : List Int).getD d 0 ∧ ([0, 0, 1, 1, 2, 3, 4, 2] : List Int).getD d 0 ≤ 4 := by decide
theorem le_sum : ∀ {l : List Int} {j : Nat} {z : Int}, (∀ x ∈ l, 0 ≤ x) → l[j]? = some z → z ≤ l.sum ∧ 0 ≤ l.sum
  | [], _, _, _, h => absurd h (by simp)
  | x :: l, 0, z, hx, h => by
    have e : x = z := by simpa using h
    subst e
    have hs : ∀ l : List Int, (∀ x ∈ l, 0 ≤ x) → 0 ≤ l.sum := fun l => by
      induction l with
      | nil => intro _; exact Int.le_refl 0
      | cons y l ih =>
        intro hy
        have h1 := hy y List.mem_cons_self
        have h2 := ih fun u hu => hy u (List.mem_cons_of_mem _ hu)
        rw [List.sum_cons]
        omega
    have h1 := hs l fun u hu => hx u (List.mem_cons_of_mem _ hu)
    have h2 := hx x List.mem_cons_self
    rw [List.sum_cons]
    omega
  | x :: l, j + 1, z, hx, h => by
    have ih := le_sum (l := l) (j := j) (z := z) (fun u hu => hx u (List.mem_cons_of_mem _ hu)) (by simpa using h)
    have h2 := hx x List.mem_cons_self
    rw [List.sum_cons]
    omega
section
variable {K : PySem.W.Frag} {base : Heap} {mg : Str → Option Value} {P : Program} {w : World}
/-! ### _law_counts -/
def spLCounts (K : PySem.W.Frag) : Sp := fun vs H Q _ => ∃ (h c : Addr) (many : Nat), vs = [.ref h, .int (many : Int)] ∧ 1 ≤ many ∧ many ≤ 3 ∧ HandAt H h c ∧ ∀ v H' l, But h H H' → HandAt H' h c → TI K H' v l → GoodC many l → Q v H'
theorem scLCounts : FnScope ["_law_hand_here", "_law_many", "_law_found", "_law_k"] ["_law_hand_here", "_law_many"] (defScope sLCounts) := ⟨rfl, rfl, rfl, by decide +kernel, rfl, by decide +kernel, by decide +kernel⟩
theorem cl_lcounts (D : Def K mg "_law_counts" ["_law_hand_here", "_law_many"] sLCounts) (T : Txt mg) (cd : Cl P w K mg base 1 "_law_draw" ["_law_hand_here", "_law_many"] spDraw) : Cl P w K mg base 2 "_law_counts" ["_law_hand_here", "_law_many"] (spLCounts K) := by
  refine D.cl fun f fd F => F.ok scLCounts (fun vs H Q E h => ?_) (fun cdv A outer s H vs Q E hr h => ?_)
  · obtain ⟨h, c, many, rfl, _⟩ := h
    rfl
  · obtain ⟨h, c, many, rfl, m1, m3, hand, q⟩ := h
    refine ⟨_, pss_cons (ps_setLc (i := 2) (own := [("_law_k", 3)]) (g := gName 3) (tt := tYes) rfl scLCounts.nd rfl rfl (sw_true rfl rfl rfl (by decide +kernel)) (pi_range1 (by rfl) T.rng (pa_cons (pv 1) pa_nil)) (blkOk_by (own := [("_law_k", 3)]) (N := ["_law_hand_here", "_law_many", "_law_found", "_law_k"]) (sc := defScope sLCounts) (by decide +kernel))
        (fun _ _ _ _ _ => pg_name (i := 3) scLCounts.nd rfl (Or.inl rfl)) (fun _ _ _ _ _ => pts_nil)
        (fun _ _ _ _ _ => pe_ix (ix_listK (K := K) rfl) (pe_lst (pa_cons pe_int (pa_cons pe_int (pa_cons pe_int (pa_cons pe_int (pa_cons pe_int (pa_cons pe_int (pa_cons pe_int (pa_cons pe_int pa_nil))))))))) (pe_cl cd hr (by rfl) (pa_cons (pv 0) (pa_cons pe_int pa_nil))) (fun _ _ => rfl)))
      (C8.pss_cut (ps_if (pt_cmpR op_lt (pe_callB (cr_sum rfl) (by rfl) T.sum PyProof.Rows.boot_sum (pa_cons (pv 2) pa_nil)) pe_int (nomark _))
          (pss_one (ps_asg pe_int (pg_sub (pv 2) (pe_cl cd hr (by rfl) (pa_cons (pv 0) (pa_cons (pv 1) pa_nil))) set_list))) pss_nil)
      (pss_one (ps_ret (pe_callTy call_tuple_of (by rfl) T.tup PyProof.Rows.boot_tuple (pa_cons (pv 2) pa_nil))))), ?_⟩
    refine ⟨_, rfl, (many : Int), rfl, by omega, by omega, fun Dl hD => ?_⟩
    obtain ⟨nh, nc⟩ := hand.new hD
    refine lc_yes walk_range (fun i H2 => But h H H2 ∧ HandAt H2 h c ∧ ∃ ns : List Int, H2 Dl = some (.lst (ns.map V.int)) ∧ ns.length = i ∧ ∀ x ∈ ns, 0 ≤ x ∧ x ≤ 4)
      ⟨But.of (same_upd hD), hand.upd nh nc, [], upd_same, rfl, fun k hk => absurd hk (by simp)⟩ (fun _ _ _ _ => trivial) (fun i x H2 H2' hi p y => ?_) (fun H2 p => ?_)
    · obtain ⟨b2, hand2, ns, hL, hl, hk⟩ := p
      obtain ⟨rfl, rfl⟩ := y
      simp only [Int.toNat_natCast] at hi
      refine ⟨rfl, by show 8 ≤ sizeLine; decide, fun z hz => ?_⟩
      obtain ⟨zh, zc⟩ := hand2.new hz
      have zD : z ≠ Dl := (ne_of_none hL hz).symm
      refine ⟨_, rfl, h, c, 8, rfl, by decide, by decide, hand2.upd zh zc, fun d H3 hd hand3 kept3 => ?_⟩
      have hz3 : H3 z = some (.lst (([0, 0, 1, 1, 2, 3, 4, 2] : List Int).map V.int)) := (kept3 z zh).trans upd_same
      have hd8 := menu d hd
      refine ⟨z, _, _, .int (([0, 0, 1, 1, 2, 3, 4, 2] : List Int).getD d 0), rfl, rfl, SqL.of hz3, at_of (j := d) rfl (by rw [List.getElem?_map, at_getD (by exact hd)]; rfl), ?_⟩
      have hD3 : H3 Dl = some (.lst (ns.map V.int)) := ((kept3 Dl nh).trans (upd_ne (Ne.symm zD))).trans hL
      have b3 : But h H H3 := (b2.trans (But.of (same_upd hz))).trans (but_eq kept3)
      refine ⟨_, hD3, small1000 (by simp; omega), butMut b3 hD, hand3.upd nh nc, ns ++ [([0, 0, 1, 1, 2, 3, 4, 2] : List Int).getD d 0], ?_, by simp [hl], fun x hx => ?_⟩
      · rw [upd_same, List.map_append]
        rfl
      · rcases List.mem_append.mp hx with q1 | q1
        · exact hk x q1
        · rw [List.mem_singleton.mp q1]
          exact hd8
    · obtain ⟨b2, hand2, ns, hL, hl, hk⟩ := p
      simp only [Int.toNat_natCast] at hl
      refine ⟨fun σ' H' => ∃ l : List Int, σ' = [some (.ref h), some (.int (many : Int)), some (.ref Dl), none] ∧ But h H H' ∧ HandAt H' h c ∧ H' Dl = some (.lst (l.map V.int)) ∧ GoodC many l, ?_, ?_⟩
      · -- if sum(found) < 2
        refine ⟨_, rfl, Dl, ns, rfl, SqL.of hL, _, _, rfl, rfl, _, rfl, ?_⟩
        refine ite2 (fun e => ?_) (fun e => ?_)
        · refine ⟨_, rfl, _, rfl, _, rfl, h, c, many, rfl, m1, by omega, hand2, fun d H3 hd hand3 kept3 => ?_⟩
          have hD3 : H3 Dl = some (.lst (ns.map V.int)) := (kept3 Dl nh).trans hL
          have hx : ns[d]? = some (ns.getD d 0) := at_getD (by omega)
          have le := le_sum (fun x hx => (hk x hx).1) hx
          refine ⟨Dl, _, _, d, rfl, rfl, hD3, ?_, ns.set d 2, rfl, butMut (b2.trans (but_eq kept3)) hD, hand3.upd nh nc, ?_, ?_, fun x hx' => ?_, ?_⟩
          · unfold ixN
            rw [if_pos (by omega), if_pos (by rw [List.length_map]; omega)]
            simp
          · rw [upd_same, List.map_set]
          · rw [List.length_set, hl]
          · rcases List.mem_or_eq_of_mem_set hx' with z | z
            · exact hk x z
            · subst z
              decide
          · rw [sum_set hx]
            omega
        · have e2 : ¬ ns.sum < 2 := fun z => e (decide_eq_true z)
          exact ⟨ns, rfl, b2, hand2, hL, hl, hk, by omega⟩
      · rintro σ' H' ⟨l, rfl, b3, hand3, hL3, g⟩
        refine ⟨_, rfl, Dl, _, rfl, .inl ⟨SqL.of hL3, fun t ht => ?_⟩⟩
        obtain ⟨n1, n2⟩ := hand3.new ht
        exact q _ _ l (b3.trans (But.of (same_upd ht))) (hand3.upd n1 n2) ⟨t, rfl, .inl (.inl upd_same)⟩ g
end
end LK
namespace LK
open PySem PySem.Spec PyProof.Rows L2 MR KM
/-! ### tuples of ints as data -/
theorem dp_ints {K : PySem.W.Frag} {H : Hp} {a : Addr} {ns : List Int} (h : SqT K H a (ns.map V.int)) : Dp K H (.ref a) (.tuple (ns.map PyData.int)) := by
  refine .tup h ?_
  have all : ∀ ns : List Int, DpAll K H (ns.map V.int) (ns.map PyData.int) := fun ns => by
    induction ns with
    | nil => exact .nil
    | cons n ns ih => exact .cons (.int n) ih
  exact all ns
theorem lay_ints (ns : List Int) : PyData.canLayAll0 (ns.map PyData.int) = true ∧ PyData.depthAll (ns.map PyData.int) = 0 := by
  induction ns with
  | nil => exact ⟨by simp [PyData.canLayAll0], by simp [PyData.depthAll]⟩
  | cons n ns ih => exact ⟨by simp [PyData.canLayAll0, PyData.canLay0, ih.1], by simp [PyData.depthAll, PyData.depth, ih.2]⟩
theorem shaped_ints (ns : List Int) : SeqAt.shaped (.tuple (ns.map PyData.int)) = true := by
  simp [SeqAt.shaped, PyData.canLay0, PyData.depth, (lay_ints ns).1, (lay_ints ns).2]
theorem eqv_ints (ns ms : List Int) : PyData.eqv (.tuple (ns.map PyData.int)) (.tuple (ms.map PyData.int)) = decide (ns = ms) := by
  have all : ∀ ns ms : List Int, PyData.eqvAll (ns.map PyData.int) (ms.map PyData.int) = decide (ns = ms) := fun ns => by
    induction ns with
    | nil => intro ms; cases ms <;> simp [PyData.eqvAll]
    | cons n ns ih =>
      intro ms
      cases ms with
      | nil => simp [PyData.eqvAll]
      | cons m ms =>
        simp only [List.map_cons, PyData.eqvAll, PyData.eqv, ih ms, List.cons.injEq]
        by_cases h : n = m
        · simp [h]
        · simp [h]
  rw [PyData.eqv, all]
theorem tti_of {K : PySem.W.Frag} {H : Hp} {a : Addr} {F : List (Addr × List Int)} (hT : SqT K H a (F.map fun p => V.ref p.1)) (hF : ∀ p ∈ F, SqT K H p.1 (p.2.map V.int)) : TTI K H (.ref a) (F.map fun p => p.2) := by
  refine ⟨a, _, rfl, hT, by simp, fun i x l h1 h2 => ?_⟩
  rw [List.getElem?_map] at h1 h2
  cases e : F[i]? with
  | none => rw [e] at h1; cases h1
  | some p =>
    rw [e] at h1 h2
    cases h1
    cases h2
    exact ⟨p.1, rfl, hF p (List.mem_of_getElem? e)⟩
theorem But.then {h f : Addr} {H H5 H' : Hp} (a : But h H H5) (b : But f H5 H') (n : H f = none) : But h H H' := fun x o hx e => b x o (ne_of_none e n) (a x o hx e)
theorem HandAt.but {h c f : Addr} {H H' : Hp} (x : HandAt H h c) (b : But f H H') (h1 : f ≠ h) (h2 : f ≠ c) : HandAt H' h c := by
  obtain ⟨a, z, d, e, ns, h0, q1, q2⟩ := x
  exact ⟨a, z, d, e, ns, h0, b _ _ (Ne.symm h1) q1, b _ _ (Ne.symm h2) q2⟩
/-- sorted(set(xs)), xs a list of tuples of many ints from 0 to 4 -/
theorem read_sorted {K : PySem.W.Frag} {P : Program} {w : World} {σ : L2.St} {i : Nat} {H : Hp} {l : Addr} {ks : List (Addr × List Int)} {many : Nat} {Q : VK} (h0 : σ[i]? = some (some (.ref l))) (h1 : SqL K H l (ks.map fun p => V.ref p.1)) (h2 : ∀ p ∈ ks, SqT K H p.1 (p.2.map V.int)) (h3 : ks.length < 64) (m1 : 1 ≤ many)
    (hb : ∀ p ∈ ks, p.2.length = many ∧ TS.Bd 5 p.2)
    (q : ∀ (L' : List (Addr × List Int)) p H', Same H H' → H p = none → H' p = some (.lst (L'.map fun z : Addr × List Int => V.ref z.1)) → (∀ z ∈ L', z ∈ ks) → (L'.map (·.2)).Nodup → L'.length < 64 → (L'.Pairwise fun y z => TS.code 5 y.2 ≤ TS.code 5 z.2) → Q (.ref p) H') :
    tCB (rSortedT K P w) (tCons (tCB (rSetOfT K P w) (tCons (tVar i) tNil)) tNil) σ H Q := by
  refine ⟨_, h0, l, ks, rfl, h1, h2, h3, fun a L ha hsub hall => ?_⟩
  have s4 : Same H (upd H a (SetTO P w a L)) := same_upd ha
  refine ⟨a, L, many, 5, rfl, upd_same, fun p hp => smT s4 (h2 p (hsub p hp)), m1, fun p hp => hb p (hsub p hp), fun L' p perm nd few pw hp => ?_⟩
  exact q L' p _ (s4.trans (same_upd hp)) (s4.free hp) upd_same (fun z hz => hsub z (perm.subset hz)) nd few pw
section
variable {K : PySem.W.Frag} {base : Heap} {mg : Str → Option Value} {P : Program} {w : World}
def spKindLots (K : PySem.W.Frag) : Sp := fun vs H Q _ => ∃ (h c : Addr) (many : Nat), vs = [.ref h, .int (many : Int), .int 8] ∧ 1 ≤ many ∧ many ≤ 3 ∧ HandAt H h c ∧ ∀ v H' lots, But h H H' → HandAt H' h c → TTI K H' v lots → Good many lots → Q v H'
theorem scKindLots : FnScope ["_law_hand_here", "_law_many", "_law_most", "_law_drawn", "_law_found", "_law_one", "_law_turn", "_law_other"] ["_law_hand_here", "_law_many", "_law_most"] (defScope sKindLots) := ⟨rfl, rfl, rfl, by decide +kernel, rfl, by decide +kernel, by decide +kernel⟩
theorem cl_kindLots (D : Def K mg "_law_kind_lots" ["_law_hand_here", "_law_many", "_law_most"] sKindLots) (T : Txt mg) (cd : Cl P w K mg base 1 "_law_draw" ["_law_hand_here", "_law_many"] spDraw) (cc : Cl P w K mg base 2 "_law_counts" ["_law_hand_here", "_law_many"] (spLCounts K))
    (cb : Cl P w K mg base 1 "_law_are_below" ["_law_one", "_law_other"] (spAtMost K)) : Cl P w K mg base 3 "_law_kind_lots" ["_law_hand_here", "_law_many", "_law_most"] (spKindLots K) := by
  refine D.cl fun f fd F => F.ok scKindLots (fun vs H Q E h => ?_) (fun cdv A outer s H vs Q E hr h => ?_)
  · obtain ⟨h, c, many, rfl, _⟩ := h
    rfl
  · obtain ⟨h, c, many, rfl, m1, m3, hand, q⟩ := h
    refine ⟨_, pss_cons (ps_setLc (i := 3) (own := [("_law_turn", 6)]) (g := gName 6) (tt := tYes) rfl scKindLots.nd rfl rfl (sw_true rfl rfl rfl (by decide +kernel)) (pi_range1 (by rfl) T.rng (pa_cons (pe_cl cd (hr.mono (by decide)) (by rfl) (pa_cons (pv 0) (pa_cons (pe_op op_add (pv 2) pe_int) pa_nil))) pa_nil)) (blkOk_by (own := [("_law_turn", 6)]) (N := ["_law_hand_here", "_law_many", "_law_most", "_law_drawn", "_law_found", "_law_one", "_law_turn", "_law_other"]) (sc := defScope sKindLots) (by decide +kernel))
        (fun _ _ _ _ _ => pg_name (i := 6) scKindLots.nd rfl (Or.inl rfl)) (fun _ _ _ _ _ => pts_nil)
        (fun _ _ _ _ _ => pe_cl cc hr (by rfl) (pa_cons (pv 0) (pa_cons (pv 1) pa_nil))))
      (pss_cons (ps_set (i := 4) scKindLots.nd rfl (Or.inl rfl) (pe_lst pa_nil))
      (pss_cons (ps_for PassesOwn.never rfl (pi_list (pe_callB (cr_sortedT rfl) (by rfl) T.sorted PyProof.Rows.boot_sorted (pa_cons (pe_callTy (cr_setOfT rfl hr.units) (by rfl) T.set PyProof.Rows.boot_set (pa_cons (pv 3) pa_nil)) pa_nil))) (pg_name (i := 5) scKindLots.nd rfl (Or.inr rfl))
        (pss_one (ps_if (pt_not (pt_val (pe_callB (cr_any rfl) (by rfl) T.any (by decide +kernel) (pa_cons
            (pe_lc (own := [("_law_other", 7)]) (g := gName 7) (tt := tYes) rfl scKindLots.nd (pi_list (pv 3)) (blkOk_by (own := [("_law_other", 7)]) (N := ["_law_hand_here", "_law_many", "_law_most", "_law_drawn", "_law_found", "_law_one", "_law_turn", "_law_other"]) (sc := defScope sKindLots) (by decide +kernel))
              (fun _ _ _ _ _ => pg_name (i := 7) scKindLots.nd rfl (Or.inl rfl)) (fun _ _ _ _ _ => pts_nil)
              (fun _ _ _ _ _ => pe_and (pe_cmpR (op_neDK (K := K) rfl hr.units) (pv 7) (pv 5) (nomark _)) (pe_one (pe_cl cb (hr.mono (by decide)) (by rfl) (pa_cons (pv 7) (pa_cons (pv 5) pa_nil)))))) pa_nil))))
          (pss_one (ps_expr (pe_bm PySem.F.plainAttrs_list PySem.F.slot_list_append PySem.F.type_list_append mt_append (pv 4) (pa_cons (pv 5) pa_nil)))) pss_nil)))
      (pss_one (ps_ret (pe_callTy call_tuple_of (by rfl) T.tup PyProof.Rows.boot_tuple (pa_cons (pv 4) pa_nil)))))), ?_⟩
    -- drawn
    refine ⟨_, rfl, _, rfl, _, _, rfl, rfl, h, c, 9, rfl, by decide, by decide, hand, fun d H1 hd hand1 kept => ?_⟩
    refine ⟨(d : Int), rfl, by omega, by omega, fun Dl hD => ?_⟩
    obtain ⟨nh, nc⟩ := hand1.new hD
    have b1 : But h H H1 := but_eq kept
    refine lc_yes walk_range (fun i H2 => But h H1 H2 ∧ HandAt H2 h c ∧ ∃ ks : List (Addr × List Int), H2 Dl = some (.lst (ks.map fun p => V.ref p.1)) ∧ ks.length = i ∧ ∀ p ∈ ks, SqT K H2 p.1 (p.2.map V.int) ∧ GoodC many p.2)
      ⟨But.of (same_upd hD), hand1.upd nh nc, [], upd_same, rfl, fun k hk => absurd hk (by simp)⟩ (fun _ _ _ _ => trivial) (fun i x H2 H2' hi p y => ?_) (fun H2 p => ?_)
    · obtain ⟨b2, hand2, ks, hL, hl, hk⟩ := p
      obtain ⟨rfl, rfl⟩ := y
      simp only [Int.toNat_natCast] at hi
      refine ⟨rfl, _, rfl, _, rfl, h, c, many, rfl, m1, m3, hand2, fun v H3 l b3 hand3 tv g => ?_⟩
      obtain ⟨a, rfl, ta⟩ := tv
      have hD3 := b3 _ _ nh hL
      obtain ⟨hl2, hh2⟩ := hand2.list
      refine ⟨_, hD3, small1000 (by simp; omega), butMut (b2.trans b3) hD, hand3.upd nh nc, ks ++ [(a, l)], ?_, by simp [hl], fun p hp => ?_⟩
      · rw [upd_same, List.map_append]
        rfl
      · rcases List.mem_append.mp hp with z | z
        · exact ⟨atL hD3 (butT b3 hh2 (hk p z).1), (hk p z).2⟩
        · cases List.mem_singleton.mp z
          exact ⟨atL hD3 ta, g⟩
    · obtain ⟨b2, hand2, ks, hL, hl, hk⟩ := p
      simp only [Int.toNat_natCast] at hl
      -- found = []
      refine ⟨Nat.zero_le _, fun fl nf => ?_⟩
      have s3 : Same H2 (upd H2 fl (.lst [])) := same_upd nf
      -- sorted(set(drawn))
      refine read_sorted (i := 3) rfl (SqL.of (s3 _ _ hL)) (fun p hp => smT s3 (hk p hp).1) (by omega) m1 (fun p hp => ⟨(hk p hp).2.1, bd_of (hk p hp).2.2.1⟩) fun L' p H5 s5' np hp5 mem nd few pw => ?_
      have s5 := s3.trans s5'
      have hf5 : H5 fl = some (.lst []) := s5' _ _ upd_same
      have pf : p ≠ fl := (ne_of_none (upd_same (H := H2) (a := fl) (o := .lst [])) np).symm
      refine ⟨p, rfl, ⟨_, SqL.of hp5⟩, ?_⟩
      refine for_it walk_list (fun i σ H' => ∃ y5, σ = [some (.ref h), some (.int (many : Int)), some (.int 8), some (.ref Dl), some (.ref fl), y5, none, none] ∧ But fl H5 H' ∧ H' fl = some (.lst (((L'.take i).filter fun z => keep (ks.map fun z => z.2) z.2).map fun z => V.ref z.1)))
        ⟨none, rfl, But.refl _ _, hf5⟩ (fun i σ H' _ ⟨_, _, b, _⟩ => SqL.of (b _ _ pf hp5)) (fun i x σ H' H'' hi p' y => ?_) (fun σ H' p' => ?_)
      · obtain ⟨y5, rfl, b5, hfl⟩ := p'
        obtain ⟨rfl, hx⟩ := y
        rw [List.length_map] at hi
        have hz : L'[i]? = some L'[i] := get_at hi
        rw [List.getElem?_map, hz] at hx
        cases hx
        have zm := List.mem_of_getElem? hz
        revert hz zm
        generalize L'[i] = z
        intro hz zm
        have gz := (hk z (mem z zm)).2
        have tz : ∀ H6, Same H'' H6 → ∀ k ∈ ks, SqT K H6 k.1 (k.2.map V.int) := fun H6 s6 k hk' => smT s6 (butT b5 hf5 (smT s5 (hk k hk').1))
        have nD : Dl ≠ fl := ne_of_none hL nf
        have hD5 : H'' Dl = some (.lst (ks.map fun p => V.ref p.1)) := b5 _ _ nD (s5 _ _ hL)
        refine ⟨_, rfl, Dl, rfl, ⟨_, SqL.of hD5⟩, fun D2 hD2 => ?_⟩
        refine lc_vals walk_list (ks.map fun k => V.bl (!decide (k.2 = z.2) && below k.2 z.2)) (by simp) (by simp; omega) hD2 (fun H6 s6 => SqL.of (s6 _ _ hD5)) (fun j x H6 H6' hj s6 y N hN => ⟨rfl, ?_⟩) (fun H6 s6 hL6 => ?_)
        · obtain ⟨rfl, hx⟩ := y
          rw [List.length_map] at hj
          have hk' : ks[j]? = some ks[j] := get_at hj
          rw [List.getElem?_map, hk'] at hx
          cases hx
          have km := List.mem_of_getElem? hk'
          revert hk' km
          generalize ks[j] = k
          intro hk' km
          have gk := (hk k km).2
          have t1 := tz _ s6 k km
          have t2 := tz _ s6 z (mem z zm)
          refine ⟨_, rfl, _, rfl, _, _, dp_ints t1, dp_ints t2, shaped_ints _, shaped_ints _, _, rfl, ?_⟩
          rw [eqv_ints]
          by_cases e : k.2 = z.2
          · rw [decide_eq_true e]
            refine iteF (hN _ _ (Same.refl _) ?_)
            rw [List.getElem?_map, hk']
            simp [e]
          · rw [decide_eq_false e]
            refine iteT ⟨_, rfl, _, rfl, _, _, k.2, z.2, rfl, ⟨k.1, rfl, t1⟩, ⟨z.1, rfl, t2⟩, by rw [gk.1, gz.1], by rw [gk.1]; omega, fun H7 s7 => hN _ _ s7 ?_⟩
            rw [List.getElem?_map, hk']
            simp [e]
        · refine ⟨D2, ks.map fun k => !decide (k.2 = z.2) && below k.2 z.2, rfl, SqL.of (by rw [hL6, List.map_map]; rfl), ?_⟩
          have e : (ks.map fun k => !decide (k.2 = z.2) && below k.2 z.2).any id = !keep (ks.map fun z => z.2) z.2 := by
            unfold keep
            rw [Bool.not_not, List.any_map, List.any_map]
            rfl
          rw [e]
          refine ⟨_, rfl, ?_⟩
          have hfl6 := s6 _ _ hfl
          have b6 : But fl H5 H6 := b5.trans (But.of s6)
          have grow : (L'.take (i + 1)).filter (fun z => keep (ks.map fun z => z.2) z.2) = (L'.take i).filter (fun z => keep (ks.map fun z => z.2) z.2) ++ (if keep (ks.map fun z => z.2) z.2 = true then [z] else []) := by
            rw [KM.take_snoc hz, List.filter_append]
            congr 1
            simp [List.filter_cons]
          cases hb : keep (ks.map fun z => z.2) z.2 with
          | false =>
            refine iteF ⟨_, rfl, b6, ?_⟩
            rw [grow, hb, if_neg (by decide), List.append_nil]
            exact hfl6
          | true =>
            refine iteT ⟨.ref fl, rfl, .inl ⟨rfl, _, SqL.of hfl6⟩, _, rfl, fl, _, _, rfl, rfl, hfl6, small1000 ?_, ?_⟩
            · rw [List.length_map]
              have := List.length_filter_le (fun z : Addr × List Int => keep (ks.map fun z => z.2) z.2) (L'.take i)
              rw [List.length_take] at this
              omega
            · refine ⟨_, rfl, fun b' o hb' e' => ?_, ?_⟩
              · rw [upd_ne hb']
                exact b6 b' o hb' e'
              · rw [upd_same, grow, hb, if_pos rfl, List.map_append]
                rfl
      · obtain ⟨y5, rfl, b5, hfl⟩ := p'
        rw [List.take_of_length_le (by simp)] at hfl
        refine ⟨_, rfl, fl, _, rfl, .inl ⟨SqL.of hfl, fun t ht => ?_⟩⟩
        have hnf : H fl = none := b1.free (b2.free nf (hand2.new nf).1) (hand2.new nf).1
        have hand5 : HandAt H' h c := (hand2.mono s5).but b5 (hand2.new nf).1 (hand2.new nf).2
        obtain ⟨n1, n2⟩ := hand5.new ht
        have bb : But h H H' := ((b1.trans b2).trans (But.of s5)).then b5 hnf
        refine q _ _ _ (bb.trans (But.of (same_upd ht))) (hand5.upd n1 n2) (tti_of (F := L'.filter fun z => keep (ks.map fun z => z.2) z.2) (.inl (.inl upd_same)) fun z hz => ?_) ?_
        · exact smT (same_upd ht) (butT b5 hf5 (smT s5 (hk z (mem z (List.mem_filter.mp hz).1)).1))
        · have e : ((L'.filter fun z => keep (ks.map fun z => z.2) z.2).map fun p => p.2) = (L'.map fun p => p.2).filter (keep (ks.map fun z => z.2)) := by
            rw [List.filter_map]
            rfl
          rw [e]
          refine good_kept (by simp; omega) (fun l hl' => ?_) (fun x hx => ?_) nd ?_
          · obtain ⟨k, km, rfl⟩ := List.mem_map.mp hl'
            exact (hk k km).2
          · obtain ⟨k, km, rfl⟩ := List.mem_map.mp hx
            exact List.mem_map.mpr ⟨k, mem k km, rfl⟩
          · exact List.pairwise_map.mpr pw
end
end LK
namespace LK
open PySem PySem.Spec PyProof.Rows L2 MR KM
/-- the begin of a row of the level -/
def levCond (w a : Int) (b : Nat) : Bool := decide (0 ≤ w - a - (b : Int)) && decide (w - a - (b : Int) ≤ 4)
def levPart (w a : Int) (n : Nat) : List (List Int) := ((List.range n).filter (levCond w a)).map fun (b : Nat) => [a, (b : Int), w - a - (b : Int)]
theorem levPart_succ (w a : Int) (n : Nat) : levPart w a (n + 1) = levPart w a n ++ (if levCond w a n = true then [[a, (n : Int), w - a - (n : Int)]] else []) := by
  unfold levPart
  rw [List.range_succ, List.filter_append, List.map_append]
  congr 1
  by_cases h : levCond w a n = true
  · rw [List.filter_cons, if_pos h, if_pos h]
    rfl
  · rw [List.filter_cons, if_neg h, if_neg h]
    rfl
theorem levPart_len (w a : Int) (n : Nat) : (levPart w a n).length ≤ n := by
  unfold levPart
  rw [List.length_map]
  have := List.length_filter_le (levCond w a) (List.range n)
  rw [List.length_range] at this
  exact this
theorem perm_map {α β : Type} {f : α → β} {ys zs : List β} (h : ys.Perm zs) : ∀ ks : List α, zs = ks.map f → ∃ ks' : List α, ks'.Perm ks ∧ ys = ks'.map f := by
  induction h with
  | nil =>
    intro ks e
    cases ks with
    | nil => exact ⟨[], .nil, rfl⟩
    | cons k ks => cases e
  | cons x _ ih =>
    intro ks e
    cases ks with
    | nil => cases e
    | cons k ks =>
      rw [List.map_cons] at e
      injection e with e1 e2
      obtain ⟨ks', p, q⟩ := ih ks e2
      exact ⟨k :: ks', p.cons k, by rw [List.map_cons, ← q, e1]⟩
  | swap x y l =>
    intro ks e
    cases ks with
    | nil => cases e
    | cons k ks =>
      cases ks with
      | nil => cases e
      | cons k2 ks =>
        simp only [List.map_cons] at e
        injection e with e1 e2
        injection e2 with e2 e3
        exact ⟨k2 :: k :: ks, .swap .., by rw [List.map_cons, List.map_cons, e1, e2, e3]⟩
  | trans _ _ ih1 ih2 =>
    intro ks e
    obtain ⟨k2, p2, q2⟩ := ih2 ks e
    obtain ⟨k1, p1, q1⟩ := ih1 k2 q2
    exact ⟨k1, p1.trans p2, q1⟩
theorem map_erase {α β : Type} (f : α → β) : ∀ (l : List α) (i : Nat), (l.map f).eraseIdx i = (l.eraseIdx i).map f
  | [], _ => rfl
  | _ :: _, 0 => rfl
  | x :: l, i + 1 => by
    show f x :: (l.map f).eraseIdx i = f x :: (l.eraseIdx i).map f
    rw [map_erase f l i]
section
variable {K : PySem.W.Frag} {base : Heap} {mg : Str → Option Value} {P : Program} {w : World}
def spLevel (K : PySem.W.Frag) : Sp := fun vs H Q _ => ∃ (h c : Addr), vs = [.ref h] ∧ HandAt H h c ∧ ∀ v H' lots, But h H H' → HandAt H' h c → TTI K H' v lots → Good 3 lots → Q v H'
theorem scLevel : FnScope ["_law_hand_here", "_law_whole", "_law_found", "_law_one", "_law_turn", "_law_two"] ["_law_hand_here"] (defScope sLevel) := ⟨rfl, rfl, rfl, by decide +kernel, rfl, by decide +kernel, by decide +kernel⟩
theorem cl_level (D : Def K mg "_law_level" ["_law_hand_here"] sLevel) (T : Txt mg) (cd : Cl P w K mg base 1 "_law_draw" ["_law_hand_here", "_law_many"] spDraw) : Cl P w K mg base 2 "_law_level" ["_law_hand_here"] (spLevel K) := by
  refine D.cl fun f fd F => F.ok scLevel (fun vs H Q E h => ?_) (fun cdv A outer s H vs Q E hr h => ?_)
  · obtain ⟨h, c, rfl, _⟩ := h
    rfl
  · obtain ⟨h, c, rfl, hand, q⟩ := h
    refine ⟨_, pss_cons (ps_set (i := 1) scLevel.nd rfl (Or.inr rfl) (pe_op op_add pe_int (pe_cl cd hr (by rfl) (pa_cons (pv 0) (pa_cons pe_int pa_nil)))))
      (pss_cons (ps_set (i := 2) scLevel.nd rfl (Or.inl rfl) (pe_lst pa_nil))
      (pss_cons (ps_for PassesOwn.never rfl (pi_range1 (by rfl) T.rng (pa_cons pe_int pa_nil)) (pg_name (i := 3) scLevel.nd rfl (Or.inr rfl))
        (pss_one (ps_expr (pe_bm PySem.F.plainAttrs_list PySem.F.slot_list_extend PySem.F.type_list_extend mt_extend (pv 2) (pa_cons
          (pe_lc (own := [("_law_two", 5)]) (g := gName 5) rfl scLevel.nd (pi_range1 (by rfl) T.rng (pa_cons pe_int pa_nil)) (blkOk_by (own := [("_law_two", 5)]) (N := ["_law_hand_here", "_law_whole", "_law_found", "_law_one", "_law_turn", "_law_two"]) (sc := defScope sLevel) (by decide +kernel))
            (fun _ _ _ _ _ => pg_name (i := 5) scLevel.nd rfl (Or.inl rfl)) (fun _ _ _ _ _ => pts_one (pt_chain op_le op_le pe_int (pe_op op_sub (pe_op op_sub (pv 1) (pv 3)) (pv 5)) pe_int))
            (fun _ _ _ _ _ => pe_tup (pa_cons (pv 3) (pa_cons (pv 5) (pa_cons (pe_op op_sub (pe_op op_sub (pv 1) (pv 3)) (pv 5)) pa_nil))))) pa_nil)))))
      (pss_cons (ps_for PassesOwn.never rfl (pi_range1 (by rfl) T.rng (pa_cons (pe_op op_sub (pe_callB call_len_seq (by rfl) T.len PySem.boot_len (pa_cons (pv 2) pa_nil)) pe_int) pa_nil)) (pg_name (i := 4) scLevel.nd rfl (Or.inl rfl))
        (pss_one (ps_if (PW.pt (pw_or (pt_cmpR op_gt (pe_callB call_len_seq (by rfl) T.len PySem.boot_len (pa_cons (pv 2) pa_nil)) pe_int (nomark _)) (pw_or1 (pt_cmpR op_eq (pe_cl cd hr (by rfl) (pa_cons (pv 0) (pa_cons pe_int pa_nil))) pe_int (nomark _)))))
          (pss_one (ps_expr (pe_bm PySem.F.plainAttrs_list PySem.F.slot_list_pop PySem.F.type_list_pop mt_popAt (pv 2) (pa_cons (pe_cl cd hr (by rfl) (pa_cons (pv 0) (pa_cons (pe_callB call_len_seq (by rfl) T.len PySem.boot_len (pa_cons (pv 2) pa_nil)) pa_nil))) pa_nil)))) pss_nil)))
      (pss_one (ps_ret (pe_callTy call_tuple_of (by rfl) T.tup PyProof.Rows.boot_tuple (pa_cons (pe_callB (cr_sortT (d := 3) (B := 5) (by decide)) (by rfl) T.sorted PyProof.Rows.boot_sorted (pa_cons (pv 2) pa_nil)) pa_nil))))))), ?_⟩
    -- whole
    refine ⟨_, rfl, h, c, 3, rfl, by decide, by decide, hand, fun d H1 hd hand1 kept => ⟨3, (d : Int), rfl, rfl, ?_⟩⟩
    have b1 : But h H H1 := but_eq kept
    obtain ⟨ww, eW, hw⟩ : ∃ ww : Int, 3 + (d : Int) = ww ∧ (3 ≤ ww ∧ ww ≤ 5) := ⟨_, rfl, by omega⟩
    -- found
    refine ⟨Nat.zero_le _, fun fl nf => ?_⟩
    obtain ⟨fh, fc⟩ := hand1.new nf
    have hnf : H fl = none := b1.free nf fh
    refine ⟨5, rfl, by decide, by decide, ?_⟩
    refine for_range (lo := 0) (n := 5) (fun i σ H' => ∃ y3, σ = [some (.ref h), some (.int ww), some (.ref fl), y3, none, none] ∧ But h H H' ∧ HandAt H' h c ∧ ∃ ks : List (Addr × List Int), H' fl = some (.lst (ks.map fun p => V.ref p.1)) ∧ (ks.map fun p => p.2) = lev ww i ∧ ∀ p ∈ ks, SqT K H' p.1 (p.2.map V.int))
      ⟨none, by rw [← eW]; rfl, b1.trans (But.of (same_upd nf)), hand1.upd fh fc, [], upd_same, rfl, fun p hp => absurd hp (by simp)⟩ (fun i σ H' hi p => ?_) (fun σ H' p => ?_)
    · obtain ⟨y3, rfl, b2, hand2, ks, hL, hc2, hk⟩ := p
      have kl : ks.length ≤ 5 * i := by
        have := congrArg List.length hc2
        rw [List.length_map] at this
        have := lev_short ww i
        omega
      show gName 3 (.int (0 + (i : Int))) _ H' _
      rw [Int.zero_add]
      refine ⟨_, rfl, .inl ⟨rfl, _, SqL.of hL⟩, 5, rfl, by decide, by decide, fun Dl hD => ?_⟩
      refine lc_it walk_range (fun j H2 => Same H' H2 ∧ ∃ js : List (Addr × List Int), H2 Dl = some (.lst (js.map fun p => V.ref p.1)) ∧ (js.map fun p => p.2) = levPart ww (i : Int) j ∧ ∀ p ∈ js, SqT K H2 p.1 (p.2.map V.int))
        ⟨same_upd hD, [], upd_same, rfl, fun p hp => absurd hp (by simp)⟩ (fun _ _ _ _ => trivial) (fun j x H2 H2' hj p y => ?_) (fun H2 p => ?_)
      · obtain ⟨s2, js, hJ, hjc, hjk⟩ := p
        obtain ⟨rfl, rfl⟩ := y
        have jl : js.length ≤ j := by
          have := congrArg List.length hjc
          rw [List.length_map] at this
          have := levPart_len ww (i : Int) j
          omega
        show gName 5 (.int (0 + (j : Int))) _ H2' _
        rw [Int.zero_add]
        refine ⟨rfl, ?_⟩
        refine ⟨_, rfl, _, rfl, _, _, rfl, rfl, _, rfl, _, _, rfl, rfl, _, _, rfl, rfl, _, rfl, ?_⟩
        have ec : levCond ww (i : Int) j = (decide (0 ≤ ww - (i : Int) - (j : Int)) && decide (ww - (i : Int) - (j : Int) ≤ 4)) := rfl
        cases e1 : decide ((0 : Int) ≤ ww - (i : Int) - (j : Int)) with
        | false =>
          refine iteF ⟨_, rfl, iteF ⟨s2, js, hJ, ?_, hjk⟩⟩
          rw [levPart_succ, ec, e1, if_neg (by simp), List.append_nil]
          exact hjc
        | true =>
          refine iteT ⟨_, _, rfl, rfl, _, rfl, ?_⟩
          cases e2 : decide (ww - (i : Int) - (j : Int) ≤ 4) with
          | false =>
            refine iteF ⟨s2, js, hJ, ?_, hjk⟩
            rw [levPart_succ, ec, e1, e2, if_neg (by simp), List.append_nil]
            exact hjc
          | true =>
            refine iteT ⟨_, rfl, _, rfl, _, rfl, _, rfl, _, _, rfl, rfl, _, rfl, _, _, rfl, rfl, by show 3 ≤ sizeLine; decide, fun t ht => ?_⟩
            have s3 : Same H2' (upd H2' t (.tup [.int (i : Int), .int (j : Int), .int (ww - (i : Int) - (j : Int))])) := same_upd ht
            have hJ3 := s3 _ _ hJ
            refine ⟨_, hJ3, small1000 (by simp; omega), smMut (s2.trans s3) hD, js ++ [(t, [(i : Int), (j : Int), ww - (i : Int) - (j : Int)])], ?_, ?_, fun p hp => ?_⟩
            · rw [upd_same, List.map_append]
              rfl
            · rw [List.map_append, hjc, levPart_succ, ec, e1, e2, if_pos (by decide)]
              rfl
            · rcases List.mem_append.mp hp with z | z
              · exact atL hJ3 (smT s3 (hjk p z))
              · cases List.mem_singleton.mp z
                exact atL hJ3 (.inl (.inl upd_same))
      · obtain ⟨s2, js, hJ, hjc, hjk⟩ := p
        have hjc : (js.map fun p => p.2) = levPart ww (i : Int) 5 := hjc
        have jl : js.length ≤ 5 := by
          have := congrArg List.length hjc
          rw [List.length_map] at this
          have := levPart_len ww (i : Int) 5
          omega
        have hL2 := s2 _ _ hL
        refine ⟨fl, Dl, _, _, rfl, rfl, hL2, hJ, Nat.le_of_lt (small1000 (by simp; omega)), ?_⟩
        refine ⟨_, rfl, butMut (b2.trans (But.of s2)) hnf, (hand2.mono s2).upd fh fc, ks ++ js, ?_, ?_, fun p hp => ?_⟩
        · rw [upd_same, List.map_append]
        · rw [List.map_append, hc2, hjc, lev_succ]
          rfl
        · rcases List.mem_append.mp hp with z | z
          · exact atL hL2 (smT s2 (hk p z))
          · exact atL hL2 (hjk p z)
    · obtain ⟨y3, rfl, b2, hand2, ks, hL, hc2, hk⟩ := p
      have hN := lev_len hw
      have kl : ks.length = (lev ww 5).length := by
        have := congrArg List.length hc2
        rwa [List.length_map] at this
      -- the pops
      refine ⟨_, rfl, fl, _, rfl, .inl (SqL.of hL), _, _, rfl, rfl, ((ks.map fun p => V.ref p.1).length : Int) - 9, rfl, by rw [List.length_map]; omega, by rw [List.length_map]; omega, ?_⟩
      rw [List.length_map, kl]
      refine for_range (lo := 0) (n := (((lev ww 5).length : Int) - 9).toNat) (fun i σ H' => ∃ y3 y4, σ = [some (.ref h), some (.int ww), some (.ref fl), y3, y4, none] ∧ But h H H' ∧ HandAt H' h c ∧ ∃ js : List (Addr × List Int), H' fl = some (.lst (js.map fun p => V.ref p.1)) ∧ (js.map fun p => p.2).Sublist (lev ww 5) ∧
          (lev ww 5).length ≤ js.length + i ∧ (12 < js.length → js.length + i = (lev ww 5).length) ∧ ∀ p ∈ js, SqT K H' p.1 (p.2.map V.int))
        ⟨_, _, rfl, b2, hand2, ks, hL, by rw [hc2]; exact List.Sublist.refl _, by omega, fun _ => by omega, hk⟩ (fun i σ H2 hi p => ?_) (fun σ H2 p => ?_)
      · obtain ⟨y3, y4, rfl, b3, hand3, js, hJ, hsub, lo, hi12, hjk⟩ := p
        have hjl : js.length ≤ 18 := by
          have := hsub.length_le
          rw [List.length_map] at this
          omega
        have pos : 1 ≤ js.length := by omega
        have lj : (js.map fun p => V.ref p.1).length = js.length := List.length_map _
        show gName 4 (.int (0 + (i : Int))) _ H2 _
        -- the pop, wherever it is come to
        have pop : ∀ (H3 : Hp), But h H H3 → HandAt H3 h c → H3 fl = some (.lst (js.map fun p => V.ref p.1)) → (∀ p ∈ js, SqT K H3 p.1 (p.2.map V.int)) → (12 < js.length ∨ js.length ≤ 12) →
            ∀ (d : Nat) (H4 : Hp), d < js.length → HandAt H4 h c → (∀ b, b ≠ h → H4 b = H3 b) →
            But h H (upd H4 fl (.lst ((js.map fun p => V.ref p.1).eraseIdx d))) ∧ HandAt (upd H4 fl (.lst ((js.map fun p => V.ref p.1).eraseIdx d))) h c ∧ ∃ js' : List (Addr × List Int), upd H4 fl (.lst ((js.map fun p => V.ref p.1).eraseIdx d)) fl = some (.lst (js'.map fun p => V.ref p.1)) ∧ (js'.map fun p => p.2).Sublist (lev ww 5) ∧
              (lev ww 5).length ≤ js'.length + (i + 1) ∧ (12 < js'.length → js'.length + (i + 1) = (lev ww 5).length) ∧ ∀ p ∈ js', SqT K (upd H4 fl (.lst ((js.map fun p => V.ref p.1).eraseIdx d))) p.1 (p.2.map V.int) := fun H3 b4 hand4 hJ3 hjk3 _ d H4 hd4 hand5 kept5 => by
          have hJ4 : H4 fl = some (.lst (js.map fun p => V.ref p.1)) := (kept5 fl fh).trans hJ3
          obtain ⟨hl3, hh3⟩ := hand4.list
          have le : (js.eraseIdx d).length = js.length - 1 := List.length_eraseIdx_of_lt hd4
          refine ⟨butMut (b4.trans (but_eq kept5)) hnf, hand5.upd fh fc, js.eraseIdx d, ?_, ?_, by omega, fun z => by omega, fun p hp => ?_⟩
          · rw [upd_same, map_erase]
          · exact ((List.eraseIdx_sublist js d).map _).trans hsub
          · exact atL hJ4 (butT (but_eq kept5) hh3 (hjk3 p ((List.eraseIdx_sublist js d).subset hp)))
        have sq : ∀ d : Nat, d < js.length → seqIndex? (d : Int) (js.map fun p => V.ref p.1).length = some d := fun d hd => by
          rw [lj]
          unfold seqIndex?
          have e0 : (if (d : Int) < 0 then (d : Int) + (js.length : Int) else (d : Int)) = (d : Int) := if_neg (by omega)
          simp only [e0]
          rw [if_pos (by simp; omega)]
          simp
        refine ⟨_, rfl, fl, _, rfl, .inl (SqL.of hJ), _, _, rfl, rfl, _, rfl, ?_⟩
        rw [lj]
        refine ite2 (fun e => ?_) (fun e => ?_)
        · have big : 12 < js.length := by have := of_decide_eq_true e; omega
          refine iteT ?_
          refine ⟨_, rfl, .inl ⟨rfl, _, SqL.of hJ⟩, _, rfl, _, rfl, fl, _, rfl, .inl (SqL.of hJ), h, c, js.length, by rw [lj]; rfl, pos, by omega, hand3, fun d H4 hd hand4 kept4 => ?_⟩
          have hJ4 : H4 fl = some (.lst (js.map fun p => V.ref p.1)) := (kept4 fl fh).trans hJ
          obtain ⟨g1, g2, js', g3, g4, g5, g6, g7⟩ := pop H2 b3 hand3 hJ hjk (.inl big) d H4 hd hand4 kept4
          exact ⟨fl, _, (d : Int), d, _, rfl, rfl, hJ4, by omega, by omega, sq d hd, get_at (by rw [lj]; exact hd), _, _, rfl, g1, g2, js', g3, g4, g5, g6, g7⟩
        · have small : js.length ≤ 12 := by
            have : ¬ (12 : Int) < (js.length : Int) := fun z => e (decide_eq_true z)
            omega
          refine ⟨_, rfl, h, c, 2, rfl, by decide, by decide, hand3, fun d0 H3 hd0 hand4 kept4 => ⟨rfl, _, rfl, ?_⟩⟩
          have b4 : But h H H3 := b3.trans (but_eq kept4)
          have hJ3 : H3 fl = some (.lst (js.map fun p => V.ref p.1)) := (kept4 fl fh).trans hJ
          obtain ⟨hl3, hh3⟩ := hand3.list
          have hjk3 : ∀ p ∈ js, SqT K H3 p.1 (p.2.map V.int) := fun p hp => butT (but_eq kept4) hh3 (hjk p hp)
          refine ite2 (fun _ => ?_) fun _ => ?_
          · refine ⟨_, rfl, .inl ⟨rfl, _, SqL.of hJ3⟩, _, rfl, _, rfl, fl, _, rfl, .inl (SqL.of hJ3), h, c, js.length, by rw [lj]; rfl, pos, by omega, hand4, fun d H4 hd hand5 kept5 => ?_⟩
            have hJ4 : H4 fl = some (.lst (js.map fun p => V.ref p.1)) := (kept5 fl fh).trans hJ3
            obtain ⟨g1, g2, js', g3, g4, g5, g6, g7⟩ := pop H3 b4 hand4 hJ3 hjk3 (.inr small) d H4 hd hand5 kept5
            exact ⟨fl, _, (d : Int), d, _, rfl, rfl, hJ4, by omega, by omega, sq d hd, get_at (by rw [lj]; exact hd), _, _, rfl, g1, g2, js', g3, g4, g5, g6, g7⟩
          · exact ⟨_, _, rfl, b4, hand4, js, hJ3, hsub, by omega, fun z => by omega, hjk3⟩
      · obtain ⟨y3, y4, rfl, b3, hand3, js, hJ, hsub, lo, hi12, hjk⟩ := p
        have hjl : js.length ≤ 12 := by
          by_cases z : 12 < js.length
          · have := hi12 z
            omega
          · omega
        have each : ∀ p ∈ js, GoodC 3 p.2 := fun p hp => (lev_each hw p.2 (hsub.subset (List.mem_map.mpr ⟨p, hp, rfl⟩))).1
        refine ⟨_, rfl, fl, _, rfl, SqL.of hJ, by rw [List.length_map]; omega, fun x hx => ?_, fun ys p perm pw hp => ?_⟩
        · obtain ⟨z, hz, rfl⟩ := List.mem_map.mp hx
          exact ⟨z.2, ⟨z.1, rfl, hjk z hz⟩, (each z hz).1, bd_of (each z hz).2.1⟩
        · obtain ⟨js', pj, rfl⟩ := perm_map perm js rfl
          have s4 : Same H2 (upd H2 p (.lst (js'.map fun p => V.ref p.1))) := same_upd hp
          refine ⟨p, _, rfl, .inl ⟨SqL.of upd_same, fun t ht => ?_⟩⟩
          obtain ⟨p1, p2⟩ := hand3.new hp
          have hand5 := hand3.upd (o := .lst (js'.map fun p => V.ref p.1)) p1 p2
          obtain ⟨t1, t2⟩ := hand5.new ht
          refine q _ _ _ ((b3.trans (But.of s4)).trans (But.of (same_upd ht))) (hand5.upd t1 t2) (tti_of (F := js') (.inl (.inl upd_same)) fun z hz => smT (same_upd ht) (smT s4 (hjk z (pj.subset hz)))) ?_
          refine good_level hw hsub (by rw [List.length_map]; exact hjl) (pj.map _) ?_
          rw [List.pairwise_map] at pw ⊢
          exact List.Pairwise.imp_of_mem (fun {a b} ha hb hab => hab a.2 b.2 ⟨a.1, rfl, hjk a (pj.subset ha)⟩ ⟨b.1, rfl, hjk b (pj.subset hb)⟩) pw
end
end LK
namespace LK
open PySem PySem.Spec PyProof.Rows L2 MR KM
/-! ### lots as data -/
def lotsD (lots : List (List Int)) : PyData := .tuple (lots.map fun l => .tuple (l.map PyData.int))
theorem dp_lots {K : PySem.W.Frag} {H : Hp} {v : V} {lots : List (List Int)} (h : TTI K H v lots) : Dp K H v (lotsD lots) := by
  obtain ⟨a, xs, rfl, hT, hl, hx⟩ := h
  refine .tup hT ?_
  have all : ∀ (xs : List V) (lots : List (List Int)), xs.length = lots.length → (∀ (i : Nat) x l, xs[i]? = some x → lots[i]? = some l → TI K H x l) → DpAll K H xs (lots.map fun l => .tuple (l.map PyData.int)) := fun xs => by
    induction xs with
    | nil =>
      intro lots hl _
      cases lots with
      | nil => exact .nil
      | cons l lots => cases hl
    | cons x xs ih =>
      intro lots hl hx
      cases lots with
      | nil => cases hl
      | cons l lots =>
        obtain ⟨b, rfl, hb⟩ := hx 0 x l rfl rfl
        exact .cons (dp_ints hb) (ih lots (by simpa using hl) fun i y m h1 h2 => hx (i + 1) y m h1 h2)
  exact all xs lots hl hx
theorem lay_lots (lots : List (List Int)) : PyData.canLayAll0 (lots.map fun l => PyData.tuple (l.map PyData.int)) = true ∧ PyData.depthAll (lots.map fun l => PyData.tuple (l.map PyData.int)) ≤ 1 := by
  induction lots with
  | nil => exact ⟨by simp [PyData.canLayAll0], by simp [PyData.depthAll]⟩
  | cons l lots ih =>
    have h := lay_ints l
    refine ⟨by simp [PyData.canLayAll0, PyData.canLay0, ih.1, h.1], ?_⟩
    simp only [List.map_cons, PyData.depthAll, PyData.depth, h.2]
    omega
theorem shaped_lots (lots : List (List Int)) : SeqAt.shaped (lotsD lots) = true := by
  have h := lay_lots lots
  have h2 : PyData.depthAll (lots.map fun l => PyData.tuple (l.map PyData.int)) + 1 ≤ 64 := by omega
  simp [SeqAt.shaped, lotsD, PyData.canLay0, PyData.depth, h.1, h2]
/-! ### rows made longer -/
theorem rep_row (n : Nat) (row : List Nat) : (List.replicate n ((iz row).map V.int)).flatten = (iz (List.replicate n row).flatten).map V.int := by
  induction n with
  | zero => rfl
  | succ n ih =>
    rw [List.replicate_succ, List.flatten_cons, ih, List.replicate_succ, List.flatten_cons]
    simp [iz]
theorem rep_one (n k : Nat) : (List.replicate n [k]).flatten = List.replicate n k := by
  induction n with
  | zero => rfl
  | succ n ih => rw [List.replicate_succ, List.flatten_cons, ih, List.replicate_succ]; rfl
theorem iz_take (row : List Nat) (n : Nat) : (iz row).take n = iz (row.take n) := by simp [iz, List.map_take]
/-! ### what is kept -/
theorem TTI.but {K : PySem.W.Frag} {H H' : Hp} {f : Addr} {l : List V} {v : V} {lots : List (List Int)} (b : But f H H') (hf : H f = some (.lst l)) (t : TTI K H v lots) : TTI K H' v lots := by
  obtain ⟨a, xs, e, hT, hl, hx⟩ := t
  exact ⟨a, xs, e, butT b hf hT, hl, fun i x m h1 h2 => let ⟨z, e', q⟩ := hx i x m h1 h2; ⟨z, e', butT b hf q⟩⟩
theorem KN.but {K : PySem.W.Frag} {C : Addr} {H H' : Hp} {f : Addr} {l : List V} {v : V} {many : Nat} {lots : List (List Int)} (b : But f H H') (hf : H f = some (.lst l)) (t : KN K C H v many lots) : KN K C H' v many lots := by
  obtain ⟨p, dx, t, e, hp, q⟩ := t
  exact ⟨p, dx, t, e, b _ _ (ne_of hp hf (by intro z; cases z)) hp, TTI.but b hf q⟩
structure Wd (K : PySem.W.Frag) (C : Addr) (H : Hp) (h c : Addr) (kd lv rv : V) (many : Nat) (lots : List (List Int)) (row : List Nat) : Prop where
  hand : HandAt H h c
  kn : KN K C H kd many lots
  tt : TTI K H lv lots
  tr : TI K H rv (iz row)
theorem Wd.mono {K : PySem.W.Frag} {C : Addr} {H H' : Hp} {h c : Addr} {kd lv rv : V} {many : Nat} {lots : List (List Int)} {row : List Nat} (s : Same H H') (x : Wd K C H h c kd lv rv many lots row) : Wd K C H' h c kd lv rv many lots row :=
  ⟨x.hand.mono s, x.kn.mono s, x.tt.mono s, x.tr.mono s⟩
theorem Wd.but {K : PySem.W.Frag} {C : Addr} {H H' : Hp} {h c f : Addr} {l : List V} {kd lv rv : V} {many : Nat} {lots : List (List Int)} {row : List Nat} (b : But f H H') (hf : H f = some (.lst l)) (hand : HandAt H' h c) (x : Wd K C H h c kd lv rv many lots row) : Wd K C H' h c kd lv rv many lots row := by
  obtain ⟨p, dx, t, e, hp, q⟩ := x.kn
  obtain ⟨a, e2, ha⟩ := x.tr
  exact ⟨hand, ⟨p, dx, t, e, b _ _ (ne_of hp hf (by intro z; cases z)) hp, TTI.but b hf q⟩, TTI.but b hf x.tt, a, e2, butT b hf ha⟩
section
variable {K : PySem.W.Frag} {base : Heap} {mg : Str → Option Value} {P : Program} {w : World}
def spLaw (K : PySem.W.Frag) : Sp := fun vs H Q _ => ∃ (p : Addr) (ns : List Int), vs = [.ref p] ∧ SqL K H p (ns.map V.int) ∧ ns.length ≤ 63 ∧ ∀ G, Q (.bl true) G
theorem scLaw : FnScope ["_law_script", "_law_hand_here", "_law_many", "_law_lots", "_law_kinds", "_law_row", "_law_flags", "_law_counts_here", "_law_told", "_law_at", "_law_kind"] ["_law_script"] (defScope sLaw) := ⟨rfl, rfl, rfl, by decide +kernel, rfl, by decide +kernel, by decide +kernel⟩
/-- the callees of the law -/
structure Calls (P : Program) (w : World) (K : PySem.W.Frag) (mg : Str → Option Value) (base : Heap) (C : Addr) : Prop where
  hand : Cl P w K mg base 1 "_law_hand" ["_law_script"] (spHand K)
  draw : Cl P w K mg base 1 "_law_draw" ["_law_hand_here", "_law_many"] spDraw
  lots : Cl P w K mg base 3 "_law_kind_lots" ["_law_hand_here", "_law_many", "_law_most"] (spKindLots K)
  level : Cl P w K mg base 2 "_law_level" ["_law_hand_here"] (spLevel K)
  row : Cl P w K mg base 2 "_law_kind_row" ["_law_hand_here", "_law_many", "_law_most"] (spKindRow K)
  thr : Cl P w K mg base 3 "_law_through" ["_law_many", "_law_lots", "_law_row"] (spThrough K)
  ent : Cl P w K mg base 6 "entered" ["kinds", "row"] (spEntered K C)
  cnt : Cl P w K mg base 6 "entered_counts" ["kinds", "row"] (spEnteredCounts K C)
  is : Cl P w K mg base 2 "_law_is" ["_law_told", "_law_due"] (spIsN K)
theorem flat_bls (bs : List Bool) : ∀ v ∈ bs.map V.bl, Flat v := fun v hv => by
  obtain ⟨b, _, rfl⟩ := List.mem_map.mp hv
  exact .inr ⟨b, rfl⟩
theorem flat_ints (ns : List Int) : ∀ v ∈ ns.map V.int, Flat v := fun v hv => by
  obtain ⟨n, _, rfl⟩ := List.mem_map.mp hv
  exact .inl ⟨n, rfl⟩
/-- Kinds(many, lots) is made -/
theorem made {C : Addr} {H H' : Hp} {x dx : Addr} (nx : H x = none) (nd : H dx = none) (k : ∀ b o, (upd (upd H dx (.own x)) x (.ins C dx [])) b = some o → b ≠ x → H' b = some o) : Same H H' := fun b o e => by
  have bx := ne_of_none e nx
  refine k b o ?_ bx
  rw [upd_ne bx, upd_ne (ne_of_none e nd)]
  exact e
theorem made0 {C : Addr} {H : Hp} {x dx : Addr} (nx : H x = none) (nd : H dx = none) : Same H (upd (upd H dx (.own x)) x (.ins C dx [])) := fun b o e => by
  rw [upd_ne (ne_of_none e nx), upd_ne (ne_of_none e nd)]
  exact e
theorem ok_law {C fi f : Addr} {fdi fd : FuncData} (F : Fun K "law" "law" sLaw f fd) (T : Txt mg) (KC : KCls K C) (Z : Calls P w K mg base C) (M : Mk K C fi) (GI : FnOk P w K mg base CX0 5 fi fdi ["self", "many", "lots"] (spInit K C)) (bI : Binds K fdi ["self", "many", "lots"] []) (mC : mg "Kinds" = some (.ref C)) :
    FnOk P w K mg base CX0 7 f fd ["_law_script"] (spLaw K) := by
  refine F.ok scLaw (fun vs H Q E h => ?_) (fun cdv A outer s H vs Q E hr h => ?_)
  · obtain ⟨a, ns, rfl, _⟩ := h
    rfl
  · obtain ⟨a, ns, rfl, hS, hl63, q⟩ := h
    have r1 : Room 1 _ := hr.mono (by decide)
    have r2 : Room 2 _ := hr.mono (by decide)
    have r3 : Room 3 _ := hr.mono (by decide)
    refine ⟨_, pss_cons (ps_set (i := 1) scLaw.nd rfl (Or.inl rfl) (pe_cl Z.hand r1 (by rfl) (pa_cons (pv 0) pa_nil)))
      (pss_cons (ps_set (i := 2) scLaw.nd rfl (Or.inl rfl) (pe_op op_add pe_int (pe_cl Z.draw r1 (by rfl) (pa_cons (pv 1) (pa_cons pe_int pa_nil)))))
      (pss_cons (ps_set (i := 3) scLaw.nd rfl (Or.inl rfl) (pe_cl Z.lots r3 (by rfl) (pa_cons (pv 1) (pa_cons (pv 2) (pa_cons pe_int pa_nil)))))
      (C8.pss_cut (ps_if (pt_cmpR op_eq (pe_cl Z.draw r1 (by rfl) (pa_cons (pv 1) (pa_cons pe_int pa_nil))) pe_int (nomark _))
        (pss_cons (ps_set (i := 2) scLaw.nd rfl (Or.inl rfl) pe_int) (pss_one (ps_set (i := 3) scLaw.nd rfl (Or.inl rfl) (pe_cl Z.level r2 (by rfl) (pa_cons (pv 1) pa_nil))))) pss_nil)
      (pss_cons (ps_set (i := 4) scLaw.nd rfl (Or.inl rfl) (pe_make M GI hr rfl mC bI .nil pass0 (pa_cons (pv 2) (pa_cons (pv 3) pa_nil))))
      (pss_cons (ps_set (i := 5) scLaw.nd rfl (Or.inl rfl) (pe_cl Z.row r2 (by rfl) (pa_cons (pv 1) (pa_cons (pv 2) (pa_cons pe_int pa_nil)))))
      (C8.pss_cut (ps_if (pt_cmpR op_eq (pe_cl Z.draw r1 (by rfl) (pa_cons (pv 1) (pa_cons pe_int pa_nil))) pe_int (nomark _))
        (pss_cons (ps_set (i := 5) scLaw.nd rfl (Or.inl rfl) (pe_op op_repA (pe_op op_catA (pv 5) (pe_tup (pa_cons pe_int pa_nil))) pe_int)) (pss_one (ps_set (i := 5) scLaw.nd rfl (Or.inl rfl) (pe_slice sl_tupA (pv 5) po_none (po_some pe_int))))) pss_nil)
      (pss_cons (ps_asg (pe_cl Z.thr r3 (by rfl) (pa_cons (pv 2) (pa_cons (pv 3) (pa_cons (pv 5) pa_nil)))) (pg_tup rfl (pgs_cons (pg_name (i := 6) scLaw.nd rfl (Or.inl rfl)) (pgs_cons (pg_name (i := 7) scLaw.nd rfl (Or.inl rfl)) pgs_nil))))
      (pss_cons (ps_set (i := 8) scLaw.nd rfl (Or.inl rfl) (pe_cl Z.ent hr (by rfl) (pa_cons (pv 4) (pa_cons (pv 5) pa_nil))))
      (pss_cons (ps_if (PW.pt (pw_or (pt_not (pt_val (pe_cl Z.is r2 (by rfl) (pa_cons (pv 8) (pa_cons (pv 6) pa_nil))))) (pw_or1 (pt_not (pt_val (pe_cl Z.is r2 (by rfl) (pa_cons (pe_cl Z.cnt hr (by rfl) (pa_cons (pv 4) (pa_cons (pv 5) pa_nil))) (pa_cons (pv 7) pa_nil)))))))) pss_never pss_nil)
      (pss_cons (ps_set (i := 9) scLaw.nd rfl (Or.inl rfl) (pe_cl Z.draw r1 (by rfl) (pa_cons (pv 1) (pa_cons (pe_op op_add (pe_callB call_len_seq (by rfl) T.len PySem.boot_len (pa_cons (pv 5) pa_nil)) pe_int) pa_nil))))
      (pss_cons (ps_if (pt_not (pt_val (pe_cl Z.is r2 (by rfl) (pa_cons (pe_cl Z.ent hr (by rfl) (pa_cons (pv 4) (pa_cons (pe_slice sl_tupA (pv 5) po_none (po_some (pv 9))) pa_nil))) (pa_cons (pe_slice sl_list (pv 6) po_none (po_some (pv 9))) pa_nil))))) pss_never pss_nil)
      (pss_cons (ps_expr (pe_bm PySem.F.plainAttrs_list PySem.F.slot_list_append PySem.F.type_list_append mt_append (pv 8) (pa_cons pe_non pa_nil)))
      (pss_cons (ps_if (pt_not (pt_val (pe_cl Z.is r2 (by rfl) (pa_cons (pe_cl Z.ent hr (by rfl) (pa_cons (pv 4) (pa_cons (pv 5) pa_nil))) (pa_cons (pv 6) pa_nil))))) pss_never pss_nil)
      (pss_cons (ps_for PassesOwn.never rfl (pi_range1 (by rfl) T.rng (pa_cons (pv 2) pa_nil)) (pg_name (i := 10) scLaw.nd rfl (Or.inl rfl))
        (pss_one (ps_if (pt_not (pt_val (pe_cl Z.is r2 (by rfl) (pa_cons (pe_cl Z.ent hr (by rfl) (pa_cons (pv 4) (pa_cons (pe_op op_repA (pe_tup (pa_cons (pv 10) pa_nil)) pe_int) pa_nil)))
          (pa_cons (pe_ix ix_tup (pe_cl Z.thr r3 (by rfl) (pa_cons (pv 2) (pa_cons (pv 3) (pa_cons (pe_op op_repA (pe_tup (pa_cons (pv 10) pa_nil)) pe_int) pa_nil)))) pe_int (fun _ _ => rfl)) pa_nil))))) pss_never pss_nil)))
      (pss_one (ps_ret (pe_and (pe_cl Z.is r2 (by rfl) (pa_cons (pe_cl Z.ent hr (by rfl) (pa_cons (pe_make M GI hr rfl mC bI .nil pass0 (pa_cons (pv 2) (pa_cons (pv 3) pa_nil))) (pa_cons (pv 5) pa_nil))) (pa_cons (pv 6) pa_nil)))
        (pe_and (pe_cmpR (op_eqD hr.units) (pe_fld (pv 4) rfl) (pv 3) (nomark _)) (pe_one (pe_cmpR op_eq (pe_fld (pv 4) rfl) (pv 2) (nomark _))))))))))))))))))))), ?_⟩
    -- the hand, many, the lots
    refine ⟨_, rfl, a, ns, rfl, hS, hl63, fun h c H1 s1 hand1 nh => ?_⟩
    refine ⟨_, rfl, h, c, 3, rfl, by decide, by decide, hand1, fun d H2 hd hand2 kept2 => ⟨1, (d : Int), rfl, rfl, ?_⟩⟩
    obtain ⟨many, eM, m1, m3⟩ : ∃ many : Nat, 1 + (d : Int) = (many : Int) ∧ 1 ≤ many ∧ many ≤ 3 := ⟨1 + d, by omega, by omega, by omega⟩
    refine ⟨_, rfl, _, rfl, h, c, many, by rw [← eM]; rfl, m1, m3, hand2, fun lv H3 lots b3 hand3 tt G => ?_⟩
    obtain ⟨hl3, hh3⟩ := hand3.list
    refine ⟨fun σ' H' => ∃ (many : Nat) (lv : V) (lots : List (List Int)), σ' = [some (.ref a), some (.ref h), some (.int (many : Int)), some lv, none, none, none, none, none, none, none] ∧ 1 ≤ many ∧ many ≤ 3 ∧ HandAt H' h c ∧ TTI K H' lv lots ∧ Good many lots, ?_, ?_⟩
    · refine ⟨_, rfl, h, c, 10, rfl, by decide, by decide, hand3, fun d2 H4 hd2 hand4 kept4 => ⟨rfl, _, rfl, ?_⟩⟩
      refine ite2 (fun _ => ?_) fun _ => ?_
      · exact ⟨_, rfl, h, c, rfl, hand4, fun lv' H5 lots' b5 hand5 tt' G' => ⟨3, lv', lots', rfl, by decide, by decide, hand5, tt', G'⟩⟩
      · exact ⟨many, lv, lots, by rw [← eM]; rfl, m1, m3, hand4, TTI.but (but_eq kept4) hh3 tt, G⟩
    clear tt G hand3 hh3 b3 eM m1 m3 hand1 hand2
    rintro σ' H' ⟨many, lv, lots, rfl, m1, m3, hand, tt, G⟩
    -- Kinds(many, lots)
    refine ⟨_, rfl, _, rfl, fun x dx nx ndx nex => ?_⟩
    refine ⟨x, dx, many, lv, lots, rfl, upd_same, m1, m3, tt.mono (made0 nx ndx), G, fun H5 kp hx => ⟨rfl, ?_⟩⟩
    have s5 : Same H' H5 := made nx ndx kp
    have kn5 : KN K C H5 (.ref x) many lots := ⟨x, dx, lv, rfl, hx, tt.mono s5⟩
    obtain ⟨hl5, hh5⟩ := (hand.mono s5).list
    -- the row
    refine ⟨_, rfl, _, rfl, h, c, many, rfl, m1, m3, hand.mono s5, fun rv H6 row b6 hand6 tr r30 hk => ?_⟩
    have w6 : Wd K C H6 h c (.ref x) lv rv many lots row := ⟨hand6, KN.but b6 hh5 kn5, TTI.but b6 hh5 (tt.mono s5), tr⟩
    obtain ⟨hl6, hh6⟩ := hand6.list
    refine ⟨fun σ' H' => ∃ (rv : V) (row : List Nat), σ' = [some (.ref a), some (.ref h), some (.int (many : Int)), some lv, some (.ref x), some rv, none, none, none, none, none] ∧ Wd K C H' h c (.ref x) lv rv many lots row ∧ row.length ≤ 200 ∧ ∀ k ∈ row, k < many, ?_, ?_⟩
    · refine ⟨_, rfl, h, c, 16, rfl, by decide, by decide, hand6, fun d2 H7 hd2 hand7 kept7 => ⟨rfl, _, rfl, ?_⟩⟩
      have w7 := w6.but (but_eq kept7) hh6 hand7
      refine ite2 (fun _ => ?_) fun _ => ?_
      · obtain ⟨ra, rfl, hra⟩ := id w7.tr
        refine ⟨_, rfl, by show 1 ≤ sizeLine; decide, fun z hz => ?_⟩
        refine catA_ok (smT (same_upd hz) hra) (.inl (.inl upd_same)) (by simp [iz_len]; omega) fun p H8 s8 hp => ?_
        refine ⟨p, 200, _, rfl, rfl, hp, by simp, by decide, by decide, by simp [iz_len]; omega, fun v H9 s9 hv => ?_⟩
        obtain ⟨r, rfl, hr9⟩ := hv
        refine ⟨_, rfl, 200, rfl, slA_take (i := 200) hr9 fun r2 H10 s10 hr10 => ?_⟩
        have e1 : (iz row).map V.int ++ [V.int 0] = (iz (row ++ [0])).map V.int := by simp [iz]
        rw [e1, rep_row, ← List.map_take, iz_take] at hr10
        have s7 := (((same_upd hz).trans s8).trans s9).trans s10
        have w10 := w7.mono s7
        refine ⟨.ref r2, _, rfl, ⟨w10.hand, w10.kn, w10.tt, r2, rfl, hr10⟩, by rw [List.length_take]; omega, fun k hk' => ?_⟩
        obtain ⟨l, hl, hkl⟩ := List.mem_flatten.mp (List.mem_of_mem_take hk')
        rw [List.eq_of_mem_replicate hl] at hkl
        rcases List.mem_append.mp hkl with z | z
        · exact hk k z
        · cases List.mem_singleton.mp z
          omega
      · exact ⟨rv, row, rfl, w7, by omega, hk⟩
    clear w6 hh6 tr r30 hk kn5 hh5 hx kp hand6 b6
    rintro σ' H7 ⟨rv, row, rfl, W, hlen, hk⟩
    have O : Ok many lots row := ⟨m1, m3, G.len, fun l hl => (G.each l hl).1, hlen, hk⟩
    -- flags, counts
    refine ⟨_, rfl, _, rfl, _, rfl, lv, rv, many, lots, row, rfl, W.tt, W.tr, m1, m3, G.len, O.len, hlen, hk, fun p f cs H8 s8 nf hp hf tc => ?_⟩
    refine ⟨p, _, rfl, hp, rfl, _, _, rfl, cs, [], rfl, rfl, ?_⟩
    have fh := (W.hand.new nf).1
    have W8 := W.mono s8
    -- told
    refine ⟨_, rfl, _, rfl, .ref x, rv, many, lots, row, rfl, W8.kn, W8.tr, O, fun g H9 s9 ng hg => ?_⟩
    have gh := (W8.hand.new ng).1
    have gc := (W8.hand.new ng).2
    have fg : f ≠ g := ne_of_none hf ng
    have W9 := W8.mono s9
    have fl1000 : ((flags lots (zeros many) row).map V.bl).length ≤ 1000 := by rw [List.length_map, flags_len]; omega
    refine ⟨_, rfl, _, rfl, .ref g, .ref f, _, rfl, ⟨g, f, rfl, rfl, .inl ⟨hg, s9 _ _ hf⟩⟩, fl1000, flat_bls _, fun H10 s10 => ⟨true, rfl, iteF ?_⟩⟩
    have W10 := W9.mono s10
    refine ⟨_, rfl, _, rfl, .ref x, rv, many, lots, row, rfl, W10.kn, W10.tr, O, fun v H11 s11 tv => ?_⟩
    obtain ⟨va, rfl, hva⟩ := tv
    obtain ⟨ca, rfl, hca⟩ := tc
    have c1000 : ((cnt lots (zeros many) row).map V.int).length ≤ 1000 := by rw [List.length_map, cnt_len, zeros_len]; omega
    refine ⟨_, rfl, .ref va, .ref ca, _, rfl, ⟨va, ca, rfl, rfl, .inr ⟨hva, smT ((s9.trans s10).trans s11) hca⟩⟩, c1000, flat_ints _, fun H12 s12 => ⟨true, rfl, iteF ?_⟩⟩
    have s912 := (s10.trans s11).trans s12
    have W12 := W9.mono s912
    have hf12 := s912 _ _ (s9 _ _ hf)
    have hg12 := s912 _ _ hg
    -- at
    obtain ⟨ra, rfl, hra⟩ := id W12.tr
    refine ⟨_, rfl, _, rfl, ra, _, rfl, .inr hra, _, _, rfl, rfl, h, c, row.length + 1, ?_, by omega, by omega, W12.hand, fun at' H13 hat hand13 kept13 => ?_⟩
    · show [V.ref h, V.int ((((iz row).map V.int).length : Int) + 1)] = _
      rw [List.length_map, iz_len]
      rfl
    obtain ⟨hl12, hh12⟩ := W12.hand.list
    have W13 := W12.but (but_eq kept13) hh12 hand13
    have hf13 : H13 f = some (.lst ((flags lots (zeros many) row).map V.bl)) := (kept13 f fh).trans hf12
    have hg13 : H13 g = some (.lst ((flags lots (zeros many) row).map V.bl)) := (kept13 g gh).trans hg12
    have hra13 : SqT K H13 ra ((iz row).map V.int) := butT (but_eq kept13) hh12 hra
    -- the begin of the row
    refine ⟨_, rfl, _, rfl, _, rfl, _, rfl, slA_take (i := at') hra13 fun r3 H14 s14 hr3 => ?_⟩
    rw [← List.map_take, iz_take] at hr3
    have W14 := W13.mono s14
    have O3 : Ok many lots (row.take at') := ⟨m1, m3, G.len, O.len, by rw [List.length_take]; omega, fun k hk' => hk k (List.mem_of_mem_take hk')⟩
    refine ⟨.ref x, .ref r3, many, lots, row.take at', rfl, W14.kn, ⟨r3, rfl, hr3⟩, O3, fun g2 H15 s15 ng2 hg2 => ?_⟩
    have s1315 := s14.trans s15
    refine ⟨_, rfl, _, rfl, _, rfl, f, _, rfl, SqL.of (s1315 _ _ hf13), fun z hz => ?_⟩
    rw [flags_take] at hg2
    have s16 := same_upd (o := .lst (cutV ((flags lots (zeros many) row).map V.bl) none (some (at' : Int)))) hz
    refine ⟨.ref g2, .ref z, ((flags lots (zeros many) row).take at').map V.bl, rfl, ⟨g2, z, rfl, rfl, .inl ⟨s16 _ _ hg2, ?_⟩⟩, by rw [List.length_map, List.length_take, flags_len]; omega, flat_bls _, fun H17 s17 => ⟨true, rfl, iteF ?_⟩⟩
    · rw [upd_same, cutV_take, List.map_take]
    have s1317 := (s1315.trans s16).trans s17
    have W17 := W13.mono s1317
    have hg17 := s1317 _ _ hg13
    have hf17 := s1317 _ _ hf13
    -- told.append(None)
    refine ⟨.ref g, rfl, .inl ⟨rfl, _, SqL.of hg17⟩, g, _, .non, rfl, rfl, hg17, small1000 (by rw [List.length_map, flags_len]; omega), ?_⟩
    have b18 : But g H17 (upd H17 g (.lst ((flags lots (zeros many) row).map V.bl ++ [.non]))) := fun b o hb e => by rw [upd_ne hb]; exact e
    have W18 := W17.but b18 hg17 (W17.hand.upd gh gc)
    have hf18 := b18 _ _ fg hf17
    revert W18 hf18
    generalize upd H17 g (.lst ((flags lots (zeros many) row).map V.bl ++ [.non])) = H18
    intro W18 hf18
    -- the row again
    refine ⟨_, rfl, _, rfl, .ref x, .ref ra, many, lots, row, rfl, W18.kn, W18.tr, O, fun g3 H19 s19 ng3 hg3 => ?_⟩
    refine ⟨_, rfl, .ref g3, .ref f, _, rfl, ⟨g3, f, rfl, rfl, .inl ⟨hg3, s19 _ _ hf18⟩⟩, fl1000, flat_bls _, fun H20 s20 => ⟨true, rfl, iteF ?_⟩⟩
    have W20 := W18.mono (s19.trans s20)
    have hf20 := (s19.trans s20) _ _ hf18
    -- six comers of each kind
    refine ⟨_, rfl, (many : Int), rfl, by omega, by omega, for_range (lo := 0) (n := (many : Int).toNat) (fun i σ H' => ∃ y, σ = [some (.ref a), some (.ref h), some (.int (many : Int)), some lv, some (.ref x), some (.ref ra), some (.ref f), some (.ref ca), some (.ref g), some (.int (at' : Int)), y] ∧ Same H20 H')
      ⟨none, rfl, Same.refl _⟩ (fun i σ H' hi p => ?_) (fun σ H' p => ?_)⟩
    · obtain ⟨y, rfl, s21⟩ := p
      rw [Int.toNat_natCast] at hi
      show gName 10 (.int (0 + (i : Int))) _ H' _
      rw [Int.zero_add]
      have O6 : Ok many lots (List.replicate 6 i) := ⟨m1, m3, G.len, O.len, by simp, fun k hk' => by rw [List.eq_of_mem_replicate hk']; exact hi⟩
      refine ⟨_, rfl, _, rfl, by show 1 ≤ sizeLine; decide, fun z hz => ?_⟩
      refine ⟨z, 6, [V.int (i : Int)], rfl, rfl, .inl (.inl upd_same), by simp, by decide, by decide, by show 1 ≤ 1000; decide, fun v H22 s22 hv => ?_⟩
      obtain ⟨r4, rfl, hr4⟩ := hv
      have s23 := (s21.trans (same_upd (o := .tup [V.int (i : Int)]) hz)).trans s22
      have W22 := W20.mono s23
      refine ⟨.ref x, .ref r4, many, lots, List.replicate 6 i, rfl, W22.kn, ⟨r4, rfl, hr4⟩, O6, fun g4 H24 s24 ng4 hg4 => ?_⟩
      refine ⟨_, rfl, _, rfl, _, rfl, by show 1 ≤ sizeLine; decide, fun z2 hz2 => ?_⟩
      refine ⟨z2, 6, [V.int (i : Int)], rfl, rfl, .inl (.inl upd_same), by simp, by decide, by decide, by show 1 ≤ 1000; decide, fun v2 H25 s25 hv2 => ?_⟩
      obtain ⟨r5, rfl, hr5⟩ := hv2
      have s26 := (s24.trans (same_upd (o := .tup [V.int (i : Int)]) hz2)).trans s25
      have W25 := W22.mono s26
      have hg25 := ((same_upd (o := .tup [V.int (i : Int)]) hz2).trans s25) _ _ hg4
      refine ⟨lv, .ref r5, many, lots, List.replicate 6 i, rfl, W25.tt, ⟨r5, rfl, hr5⟩, m1, m3, G.len, O.len, O6.short, O6.kinds, fun p6 f6 c6 H27 s27 nf6 hp6 hf6 tc6 => ?_⟩
      refine ⟨p6, _, 0, .ref f6, rfl, rfl, hp6, atI_nat (j := 0) rfl, ?_⟩
      exact ⟨.ref g4, .ref f6, _, rfl, ⟨g4, f6, rfl, rfl, .inl ⟨s27 _ _ hg25, hf6⟩⟩, by rw [List.length_map, flags_len]; simp, flat_bls _, fun H28 s28 => ⟨true, rfl, iteF ⟨_, rfl, ((s23.trans s26).trans s27).trans s28⟩⟩⟩
    · obtain ⟨y, rfl, s21⟩ := p
      have W21 := W20.mono s21
      have hf21 := s21 _ _ hf20
      refine ⟨_, rfl, _, rfl, fun x2 dx2 nx2 ndx2 nex2 => ?_⟩
      refine ⟨x2, dx2, many, lv, lots, rfl, upd_same, m1, m3, W21.tt.mono (made0 nx2 ndx2), G, fun H22 kp2 hx2 => ⟨rfl, ?_⟩⟩
      have s22 : Same H' H22 := made nx2 ndx2 kp2
      have W22 := W21.mono s22
      refine ⟨_, rfl, .ref x2, .ref ra, many, lots, row, rfl, ⟨x2, dx2, lv, rfl, hx2, W22.tt⟩, W22.tr, O, fun g5 H23 s23 ng5 hg5 => ?_⟩
      refine ⟨_, rfl, .ref g5, .ref f, _, rfl, ⟨g5, f, rfl, rfl, .inl ⟨hg5, (s22.trans s23) _ _ hf21⟩⟩, fl1000, flat_bls _, fun H24 s24 => ⟨true, rfl, iteT ?_⟩⟩
      have W24 := W22.mono (s23.trans s24)
      obtain ⟨p4, dx4, t4, e4, hp4, tt4⟩ := W24.kn
      cases e4
      refine ⟨_, rfl, x, C, dx4, _, _, rfl, hp4, KC.cl, KC.nL, flds_lots _ _, _, rfl, lotsD lots, lotsD lots, dp_lots tt4, dp_lots W24.tt, shaped_lots _, shaped_lots _, _, rfl, ?_⟩
      have lay : (lotsD lots).canLay0 = true := by
        have := (lay_lots lots).1
        simp [lotsD, PyData.canLay0, this]
      rw [SeqAt.eqv_refl _ lay]
      refine iteT ⟨_, rfl, x, C, dx4, _, _, rfl, hp4, KC.cl, KC.nM, flds_many _ _, _, rfl, rfl, ?_⟩
      show Q (.bl (decide (V.int (many : Int) = V.int (many : Int)))) _
      rw [decide_eq_true rfl]
      exact q _
end
end LK
namespace LK
open PySem PySem.Spec PyProof.Rows L2 MR KM
/-! ### what the top has left, and the law over it -/
section
variable {mg : Str → Option Value} {h : Heap} {K : PySem.W.Frag}
theorem def_mk {x : Str} {ps : List Str} {st : Stmt} {f : Addr} {oc : Value} {od an : Option Addr} {osl : Array (Option Value)} {kV doc pm cdv ct : Value} (X : K.In h) (G : h.Ns mainGlobals mg) (a : PySem.W.nsIn K mainGlobals x = some (some (.ref f)))
    (l : K.lookup f = some ⟨oc, od, .func (PySem.W.fnOf x x (defArgs st) (defBody st) (defScope st) .none kV doc pm an cdv ct), osl⟩) (c : PySem.W.codeIn K cdv x = true) (k : PySem.W.keepIn K (.ref f) = true)
    (b : ∀ (kV doc pm : Value) (an : Option Addr) (cdv ct : Value) (us : List Value), us.length = ps.length → bindArgs (PySem.W.fnOf x x (defArgs st) (defBody st) (defScope st) .none kV doc pm an cdv ct) ⟨us, []⟩ = pure (ps.zip us)) : Def K mg x ps st :=
  ⟨f, _, fun_mk l c k, PySem.W.mg_of X G a, (fun_mk l c k).binds b⟩
theorem mk_is_integer {f : Addr} {oc : Value} {od an : Option Addr} {osl : Array (Option Value)} {kV doc pm cdv ct : Value} (X : K.In h) (G : h.Ns mainGlobals mg) (a : PySem.W.nsIn K mainGlobals "is_integer" = some (some (.ref f)))
    (l : K.lookup f = some ⟨oc, od, .func (PySem.W.fnOf "is_integer" "is_integer" (defArgs sInteger) (defBody sInteger) (defScope sInteger) .none kV doc pm an cdv ct), osl⟩) (c : PySem.W.codeIn K cdv "is_integer" = true) (k : PySem.W.keepIn K (.ref f) = true) : Def K mg "is_integer" ["thing"] sInteger :=
  def_mk X G a l c k fun _ _ _ _ _ _ us hl => match us, hl with | [_], _ => rfl
theorem mk_is_within {f : Addr} {oc : Value} {od an : Option Addr} {osl : Array (Option Value)} {kV doc pm cdv ct : Value} (X : K.In h) (G : h.Ns mainGlobals mg) (a : PySem.W.nsIn K mainGlobals "is_within" = some (some (.ref f)))
    (l : K.lookup f = some ⟨oc, od, .func (PySem.W.fnOf "is_within" "is_within" (defArgs sWithin) (defBody sWithin) (defScope sWithin) .none kV doc pm an cdv ct), osl⟩) (c : PySem.W.codeIn K cdv "is_within" = true) (k : PySem.W.keepIn K (.ref f) = true) : Def K mg "is_within" ["thing", "least", "most"] sWithin :=
  def_mk X G a l c k fun _ _ _ _ _ _ us hl => match us, hl with | [_, _, _], _ => rfl
theorem mk_is_counts {f : Addr} {oc : Value} {od an : Option Addr} {osl : Array (Option Value)} {kV doc pm cdv ct : Value} (X : K.In h) (G : h.Ns mainGlobals mg) (a : PySem.W.nsIn K mainGlobals "is_counts" = some (some (.ref f)))
    (l : K.lookup f = some ⟨oc, od, .func (PySem.W.fnOf "is_counts" "is_counts" (defArgs sCounts) (defBody sCounts) (defScope sCounts) .none kV doc pm an cdv ct), osl⟩) (c : PySem.W.codeIn K cdv "is_counts" = true) (k : PySem.W.keepIn K (.ref f) = true) : Def K mg "is_counts" ["many", "thing"] sCounts :=
  def_mk X G a l c k fun _ _ _ _ _ _ us hl => match us, hl with | [_, _], _ => rfl
theorem mk_is_at_most {f : Addr} {oc : Value} {od an : Option Addr} {osl : Array (Option Value)} {kV doc pm cdv ct : Value} (X : K.In h) (G : h.Ns mainGlobals mg) (a : PySem.W.nsIn K mainGlobals "is_at_most" = some (some (.ref f)))
    (l : K.lookup f = some ⟨oc, od, .func (PySem.W.fnOf "is_at_most" "is_at_most" (defArgs sAtMost) (defBody sAtMost) (defScope sAtMost) .none kV doc pm an cdv ct), osl⟩) (c : PySem.W.codeIn K cdv "is_at_most" = true) (k : PySem.W.keepIn K (.ref f) = true) : Def K mg "is_at_most" ["one", "other"] sAtMost :=
  def_mk X G a l c k fun _ _ _ _ _ _ us hl => match us, hl with | [_, _], _ => rfl
theorem mk_first_wrong_counts {f : Addr} {oc : Value} {od an : Option Addr} {osl : Array (Option Value)} {kV doc pm cdv ct : Value} (X : K.In h) (G : h.Ns mainGlobals mg) (a : PySem.W.nsIn K mainGlobals "first_wrong_counts" = some (some (.ref f)))
    (l : K.lookup f = some ⟨oc, od, .func (PySem.W.fnOf "first_wrong_counts" "first_wrong_counts" (defArgs sFirst) (defBody sFirst) (defScope sFirst) .none kV doc pm an cdv ct), osl⟩) (c : PySem.W.codeIn K cdv "first_wrong_counts" = true) (k : PySem.W.keepIn K (.ref f) = true) : Def K mg "first_wrong_counts" ["many", "lots"] sFirst :=
  def_mk X G a l c k fun _ _ _ _ _ _ us hl => match us, hl with | [_, _], _ => rfl
theorem mk_is_row_of {f : Addr} {oc : Value} {od an : Option Addr} {osl : Array (Option Value)} {kV doc pm cdv ct : Value} (X : K.In h) (G : h.Ns mainGlobals mg) (a : PySem.W.nsIn K mainGlobals "is_row_of" = some (some (.ref f)))
    (l : K.lookup f = some ⟨oc, od, .func (PySem.W.fnOf "is_row_of" "is_row_of" (defArgs sRowOf) (defBody sRowOf) (defScope sRowOf) .none kV doc pm an cdv ct), osl⟩) (c : PySem.W.codeIn K cdv "is_row_of" = true) (k : PySem.W.keepIn K (.ref f) = true) : Def K mg "is_row_of" ["kinds", "thing"] sRowOf :=
  def_mk X G a l c k fun _ _ _ _ _ _ us hl => match us, hl with | [_, _], _ => rfl
theorem mk_check_row {f : Addr} {oc : Value} {od an : Option Addr} {osl : Array (Option Value)} {kV doc pm cdv ct : Value} (X : K.In h) (G : h.Ns mainGlobals mg) (a : PySem.W.nsIn K mainGlobals "check_row" = some (some (.ref f)))
    (l : K.lookup f = some ⟨oc, od, .func (PySem.W.fnOf "check_row" "check_row" (defArgs sCheck) (defBody sCheck) (defScope sCheck) .none kV doc pm an cdv ct), osl⟩) (c : PySem.W.codeIn K cdv "check_row" = true) (k : PySem.W.keepIn K (.ref f) = true) : Def K mg "check_row" ["kinds", "thing"] sCheck :=
  def_mk X G a l c k fun _ _ _ _ _ _ us hl => match us, hl with | [_, _], _ => rfl
theorem mk_begin {f : Addr} {oc : Value} {od an : Option Addr} {osl : Array (Option Value)} {kV doc pm cdv ct : Value} (X : K.In h) (G : h.Ns mainGlobals mg) (a : PySem.W.nsIn K mainGlobals "begin" = some (some (.ref f)))
    (l : K.lookup f = some ⟨oc, od, .func (PySem.W.fnOf "begin" "begin" (defArgs sBegin) (defBody sBegin) (defScope sBegin) .none kV doc pm an cdv ct), osl⟩) (c : PySem.W.codeIn K cdv "begin" = true) (k : PySem.W.keepIn K (.ref f) = true) : Def K mg "begin" ["kinds"] sBegin :=
  def_mk X G a l c k fun _ _ _ _ _ _ us hl => match us, hl with | [_], _ => rfl
theorem mk_caps {f : Addr} {oc : Value} {od an : Option Addr} {osl : Array (Option Value)} {kV doc pm cdv ct : Value} (X : K.In h) (G : h.Ns mainGlobals mg) (a : PySem.W.nsIn K mainGlobals "caps" = some (some (.ref f)))
    (l : K.lookup f = some ⟨oc, od, .func (PySem.W.fnOf "caps" "caps" (defArgs sCaps) (defBody sCaps) (defScope sCaps) .none kV doc pm an cdv ct), osl⟩) (c : PySem.W.codeIn K cdv "caps" = true) (k : PySem.W.keepIn K (.ref f) = true) : Def K mg "caps" ["kinds"] sCaps :=
  def_mk X G a l c k fun _ _ _ _ _ _ us hl => match us, hl with | [_], _ => rfl
theorem mk_with_one {f : Addr} {oc : Value} {od an : Option Addr} {osl : Array (Option Value)} {kV doc pm cdv ct : Value} (X : K.In h) (G : h.Ns mainGlobals mg) (a : PySem.W.nsIn K mainGlobals "with_one" = some (some (.ref f)))
    (l : K.lookup f = some ⟨oc, od, .func (PySem.W.fnOf "with_one" "with_one" (defArgs sWithOne) (defBody sWithOne) (defScope sWithOne) .none kV doc pm an cdv ct), osl⟩) (c : PySem.W.codeIn K cdv "with_one" = true) (k : PySem.W.keepIn K (.ref f) = true) : Def K mg "with_one" ["counts", "kind"] sWithOne :=
  def_mk X G a l c k fun _ _ _ _ _ _ us hl => match us, hl with | [_, _], _ => rfl
theorem mk_capped {f : Addr} {oc : Value} {od an : Option Addr} {osl : Array (Option Value)} {kV doc pm cdv ct : Value} (X : K.In h) (G : h.Ns mainGlobals mg) (a : PySem.W.nsIn K mainGlobals "capped" = some (some (.ref f)))
    (l : K.lookup f = some ⟨oc, od, .func (PySem.W.fnOf "capped" "capped" (defArgs sCapped) (defBody sCapped) (defScope sCapped) .none kV doc pm an cdv ct), osl⟩) (c : PySem.W.codeIn K cdv "capped" = true) (k : PySem.W.keepIn K (.ref f) = true) : Def K mg "capped" ["kinds", "counts"] sCapped :=
  def_mk X G a l c k fun _ _ _ _ _ _ us hl => match us, hl with | [_, _], _ => rfl
theorem mk_step {f : Addr} {oc : Value} {od an : Option Addr} {osl : Array (Option Value)} {kV doc pm cdv ct : Value} (X : K.In h) (G : h.Ns mainGlobals mg) (a : PySem.W.nsIn K mainGlobals "step" = some (some (.ref f)))
    (l : K.lookup f = some ⟨oc, od, .func (PySem.W.fnOf "step" "step" (defArgs sStep) (defBody sStep) (defScope sStep) .none kV doc pm an cdv ct), osl⟩) (c : PySem.W.codeIn K cdv "step" = true) (k : PySem.W.keepIn K (.ref f) = true) : Def K mg "step" ["kinds", "counts", "kind"] sStep :=
  def_mk X G a l c k fun _ _ _ _ _ _ us hl => match us, hl with | [_, _, _], _ => rfl
theorem mk_run {f : Addr} {oc : Value} {od an : Option Addr} {osl : Array (Option Value)} {kV doc pm cdv ct : Value} (X : K.In h) (G : h.Ns mainGlobals mg) (a : PySem.W.nsIn K mainGlobals "run" = some (some (.ref f)))
    (l : K.lookup f = some ⟨oc, od, .func (PySem.W.fnOf "run" "run" (defArgs sRun) (defBody sRun) (defScope sRun) .none kV doc pm an cdv ct), osl⟩) (c : PySem.W.codeIn K cdv "run" = true) (k : PySem.W.keepIn K (.ref f) = true) : Def K mg "run" ["kinds", "state", "row"] sRun :=
  def_mk X G a l c k fun _ _ _ _ _ _ us hl => match us, hl with | [_, _, _], _ => rfl
theorem mk_entered_in {f : Addr} {oc : Value} {od an : Option Addr} {osl : Array (Option Value)} {kV doc pm cdv ct : Value} (X : K.In h) (G : h.Ns mainGlobals mg) (a : PySem.W.nsIn K mainGlobals "entered_in" = some (some (.ref f)))
    (l : K.lookup f = some ⟨oc, od, .func (PySem.W.fnOf "entered_in" "entered_in" (defArgs sEnteredIn) (defBody sEnteredIn) (defScope sEnteredIn) .none kV doc pm an cdv ct), osl⟩) (c : PySem.W.codeIn K cdv "entered_in" = true) (k : PySem.W.keepIn K (.ref f) = true) : Def K mg "entered_in" ["kinds", "row"] sEnteredIn :=
  def_mk X G a l c k fun _ _ _ _ _ _ us hl => match us, hl with | [_, _], _ => rfl
theorem mk_entered {f : Addr} {oc : Value} {od an : Option Addr} {osl : Array (Option Value)} {kV doc pm cdv ct : Value} (X : K.In h) (G : h.Ns mainGlobals mg) (a : PySem.W.nsIn K mainGlobals "entered" = some (some (.ref f)))
    (l : K.lookup f = some ⟨oc, od, .func (PySem.W.fnOf "entered" "entered" (defArgs sEntered) (defBody sEntered) (defScope sEntered) .none kV doc pm an cdv ct), osl⟩) (c : PySem.W.codeIn K cdv "entered" = true) (k : PySem.W.keepIn K (.ref f) = true) : Def K mg "entered" ["kinds", "row"] sEntered :=
  def_mk X G a l c k fun _ _ _ _ _ _ us hl => match us, hl with | [_, _], _ => rfl
theorem mk_counted {f : Addr} {oc : Value} {od an : Option Addr} {osl : Array (Option Value)} {kV doc pm cdv ct : Value} (X : K.In h) (G : h.Ns mainGlobals mg) (a : PySem.W.nsIn K mainGlobals "counted" = some (some (.ref f)))
    (l : K.lookup f = some ⟨oc, od, .func (PySem.W.fnOf "counted" "counted" (defArgs sCounted) (defBody sCounted) (defScope sCounted) .none kV doc pm an cdv ct), osl⟩) (c : PySem.W.codeIn K cdv "counted" = true) (k : PySem.W.keepIn K (.ref f) = true) : Def K mg "counted" ["kinds", "row", "flags", "times"] sCounted :=
  def_mk X G a l c k fun _ _ _ _ _ _ us hl => match us, hl with | [_, _, _, _], _ => rfl
theorem mk_entered_counts {f : Addr} {oc : Value} {od an : Option Addr} {osl : Array (Option Value)} {kV doc pm cdv ct : Value} (X : K.In h) (G : h.Ns mainGlobals mg) (a : PySem.W.nsIn K mainGlobals "entered_counts" = some (some (.ref f)))
    (l : K.lookup f = some ⟨oc, od, .func (PySem.W.fnOf "entered_counts" "entered_counts" (defArgs sEnteredCounts) (defBody sEnteredCounts) (defScope sEnteredCounts) .none kV doc pm an cdv ct), osl⟩) (c : PySem.W.codeIn K cdv "entered_counts" = true) (k : PySem.W.keepIn K (.ref f) = true) : Def K mg "entered_counts" ["kinds", "row"] sEnteredCounts :=
  def_mk X G a l c k fun _ _ _ _ _ _ us hl => match us, hl with | [_, _], _ => rfl
theorem mk_law_hand {f : Addr} {oc : Value} {od an : Option Addr} {osl : Array (Option Value)} {kV doc pm cdv ct : Value} (X : K.In h) (G : h.Ns mainGlobals mg) (a : PySem.W.nsIn K mainGlobals "_law_hand" = some (some (.ref f)))
    (l : K.lookup f = some ⟨oc, od, .func (PySem.W.fnOf "_law_hand" "_law_hand" (defArgs sHand) (defBody sHand) (defScope sHand) .none kV doc pm an cdv ct), osl⟩) (c : PySem.W.codeIn K cdv "_law_hand" = true) (k : PySem.W.keepIn K (.ref f) = true) : Def K mg "_law_hand" ["_law_script"] sHand :=
  def_mk X G a l c k fun _ _ _ _ _ _ us hl => match us, hl with | [_], _ => rfl
theorem mk_law_draw {f : Addr} {oc : Value} {od an : Option Addr} {osl : Array (Option Value)} {kV doc pm cdv ct : Value} (X : K.In h) (G : h.Ns mainGlobals mg) (a : PySem.W.nsIn K mainGlobals "_law_draw" = some (some (.ref f)))
    (l : K.lookup f = some ⟨oc, od, .func (PySem.W.fnOf "_law_draw" "_law_draw" (defArgs sDraw) (defBody sDraw) (defScope sDraw) .none kV doc pm an cdv ct), osl⟩) (c : PySem.W.codeIn K cdv "_law_draw" = true) (k : PySem.W.keepIn K (.ref f) = true) : Def K mg "_law_draw" ["_law_hand_here", "_law_many"] sDraw :=
  def_mk X G a l c k fun _ _ _ _ _ _ us hl => match us, hl with | [_, _], _ => rfl
theorem mk_law_is {f : Addr} {oc : Value} {od an : Option Addr} {osl : Array (Option Value)} {kV doc pm cdv ct : Value} (X : K.In h) (G : h.Ns mainGlobals mg) (a : PySem.W.nsIn K mainGlobals "_law_is" = some (some (.ref f)))
    (l : K.lookup f = some ⟨oc, od, .func (PySem.W.fnOf "_law_is" "_law_is" (defArgs sIs) (defBody sIs) (defScope sIs) .none kV doc pm an cdv ct), osl⟩) (c : PySem.W.codeIn K cdv "_law_is" = true) (k : PySem.W.keepIn K (.ref f) = true) : Def K mg "_law_is" ["_law_told", "_law_due"] sIs :=
  def_mk X G a l c k fun _ _ _ _ _ _ us hl => match us, hl with | [_, _], _ => rfl
theorem mk_law_are_below {f : Addr} {oc : Value} {od an : Option Addr} {osl : Array (Option Value)} {kV doc pm cdv ct : Value} (X : K.In h) (G : h.Ns mainGlobals mg) (a : PySem.W.nsIn K mainGlobals "_law_are_below" = some (some (.ref f)))
    (l : K.lookup f = some ⟨oc, od, .func (PySem.W.fnOf "_law_are_below" "_law_are_below" (defArgs sBelow) (defBody sBelow) (defScope sBelow) .none kV doc pm an cdv ct), osl⟩) (c : PySem.W.codeIn K cdv "_law_are_below" = true) (k : PySem.W.keepIn K (.ref f) = true) : Def K mg "_law_are_below" ["_law_one", "_law_other"] sBelow :=
  def_mk X G a l c k fun _ _ _ _ _ _ us hl => match us, hl with | [_, _], _ => rfl
theorem mk_law_counts {f : Addr} {oc : Value} {od an : Option Addr} {osl : Array (Option Value)} {kV doc pm cdv ct : Value} (X : K.In h) (G : h.Ns mainGlobals mg) (a : PySem.W.nsIn K mainGlobals "_law_counts" = some (some (.ref f)))
    (l : K.lookup f = some ⟨oc, od, .func (PySem.W.fnOf "_law_counts" "_law_counts" (defArgs sLCounts) (defBody sLCounts) (defScope sLCounts) .none kV doc pm an cdv ct), osl⟩) (c : PySem.W.codeIn K cdv "_law_counts" = true) (k : PySem.W.keepIn K (.ref f) = true) : Def K mg "_law_counts" ["_law_hand_here", "_law_many"] sLCounts :=
  def_mk X G a l c k fun _ _ _ _ _ _ us hl => match us, hl with | [_, _], _ => rfl
theorem mk_law_kind_lots {f : Addr} {oc : Value} {od an : Option Addr} {osl : Array (Option Value)} {kV doc pm cdv ct : Value} (X : K.In h) (G : h.Ns mainGlobals mg) (a : PySem.W.nsIn K mainGlobals "_law_kind_lots" = some (some (.ref f)))
    (l : K.lookup f = some ⟨oc, od, .func (PySem.W.fnOf "_law_kind_lots" "_law_kind_lots" (defArgs sKindLots) (defBody sKindLots) (defScope sKindLots) .none kV doc pm an cdv ct), osl⟩) (c : PySem.W.codeIn K cdv "_law_kind_lots" = true) (k : PySem.W.keepIn K (.ref f) = true) : Def K mg "_law_kind_lots" ["_law_hand_here", "_law_many", "_law_most"] sKindLots :=
  def_mk X G a l c k fun _ _ _ _ _ _ us hl => match us, hl with | [_, _, _], _ => rfl
theorem mk_law_step {f : Addr} {oc : Value} {od an : Option Addr} {osl : Array (Option Value)} {kV doc pm cdv ct : Value} (X : K.In h) (G : h.Ns mainGlobals mg) (a : PySem.W.nsIn K mainGlobals "_law_step" = some (some (.ref f)))
    (l : K.lookup f = some ⟨oc, od, .func (PySem.W.fnOf "_law_step" "_law_step" (defArgs sLStep) (defBody sLStep) (defScope sLStep) .none kV doc pm an cdv ct), osl⟩) (c : PySem.W.codeIn K cdv "_law_step" = true) (k : PySem.W.keepIn K (.ref f) = true) : Def K mg "_law_step" ["_law_lots", "_law_counts_here", "_law_kind"] sLStep :=
  def_mk X G a l c k fun _ _ _ _ _ _ us hl => match us, hl with | [_, _, _], _ => rfl
theorem mk_law_through {f : Addr} {oc : Value} {od an : Option Addr} {osl : Array (Option Value)} {kV doc pm cdv ct : Value} (X : K.In h) (G : h.Ns mainGlobals mg) (a : PySem.W.nsIn K mainGlobals "_law_through" = some (some (.ref f)))
    (l : K.lookup f = some ⟨oc, od, .func (PySem.W.fnOf "_law_through" "_law_through" (defArgs sThrough) (defBody sThrough) (defScope sThrough) .none kV doc pm an cdv ct), osl⟩) (c : PySem.W.codeIn K cdv "_law_through" = true) (k : PySem.W.keepIn K (.ref f) = true) : Def K mg "_law_through" ["_law_many", "_law_lots", "_law_row"] sThrough :=
  def_mk X G a l c k fun _ _ _ _ _ _ us hl => match us, hl with | [_, _, _], _ => rfl
theorem mk_law_kind_row {f : Addr} {oc : Value} {od an : Option Addr} {osl : Array (Option Value)} {kV doc pm cdv ct : Value} (X : K.In h) (G : h.Ns mainGlobals mg) (a : PySem.W.nsIn K mainGlobals "_law_kind_row" = some (some (.ref f)))
    (l : K.lookup f = some ⟨oc, od, .func (PySem.W.fnOf "_law_kind_row" "_law_kind_row" (defArgs sKindRow) (defBody sKindRow) (defScope sKindRow) .none kV doc pm an cdv ct), osl⟩) (c : PySem.W.codeIn K cdv "_law_kind_row" = true) (k : PySem.W.keepIn K (.ref f) = true) : Def K mg "_law_kind_row" ["_law_hand_here", "_law_many", "_law_most"] sKindRow :=
  def_mk X G a l c k fun _ _ _ _ _ _ us hl => match us, hl with | [_, _, _], _ => rfl
theorem mk_law_level {f : Addr} {oc : Value} {od an : Option Addr} {osl : Array (Option Value)} {kV doc pm cdv ct : Value} (X : K.In h) (G : h.Ns mainGlobals mg) (a : PySem.W.nsIn K mainGlobals "_law_level" = some (some (.ref f)))
    (l : K.lookup f = some ⟨oc, od, .func (PySem.W.fnOf "_law_level" "_law_level" (defArgs sLevel) (defBody sLevel) (defScope sLevel) .none kV doc pm an cdv ct), osl⟩) (c : PySem.W.codeIn K cdv "_law_level" = true) (k : PySem.W.keepIn K (.ref f) = true) : Def K mg "_law_level" ["_law_hand_here"] sLevel :=
  def_mk X G a l c k fun _ _ _ _ _ _ us hl => match us, hl with | [_], _ => rfl
theorem txt_mk {t_mkk t_mc t_ml t_mr : Tok} (X : K.In h) (G : h.Ns mainGlobals mg)
    (z_isi : PySem.W.nsIn K mainGlobals "isinstance" = some none)
    (z_int : PySem.W.nsIn K mainGlobals "int" = some none)
    (z_bool : PySem.W.nsIn K mainGlobals "bool" = some none)
    (z_tup : PySem.W.nsIn K mainGlobals "tuple" = some none)
    (z_list : PySem.W.nsIn K mainGlobals "list" = some none)
    (z_len : PySem.W.nsIn K mainGlobals "len" = some none)
    (z_all : PySem.W.nsIn K mainGlobals "all" = some none)
    (z_any : PySem.W.nsIn K mainGlobals "any" = some none)
    (z_sum : PySem.W.nsIn K mainGlobals "sum" = some none)
    (z_zip : PySem.W.nsIn K mainGlobals "zip" = some none)
    (z_enum : PySem.W.nsIn K mainGlobals "enumerate" = some none)
    (z_max : PySem.W.nsIn K mainGlobals "max" = some none)
    (z_min : PySem.W.nsIn K mainGlobals "min" = some none)
    (z_rng : PySem.W.nsIn K mainGlobals "range" = some none)
    (z_sorted : PySem.W.nsIn K mainGlobals "sorted" = some none)
    (z_set : PySem.W.nsIn K mainGlobals "set" = some none)
    (z_abs : PySem.W.nsIn K mainGlobals "abs" = some none)
    (z_mkk : PySem.W.nsIn K mainGlobals "MOST_KINDS" = some (some (.int 3 t_mkk)))
    (z_mc : PySem.W.nsIn K mainGlobals "MOST_COUNT" = some (some (.int 4 t_mc)))
    (z_ml : PySem.W.nsIn K mainGlobals "MOST_LOTS" = some (some (.int 12 t_ml)))
    (z_mr : PySem.W.nsIn K mainGlobals "MOST_ROW" = some (some (.int 200 t_mr)))
    : Txt mg := ⟨PySem.W.mg_none_of X G z_isi, PySem.W.mg_none_of X G z_int, PySem.W.mg_none_of X G z_bool, PySem.W.mg_none_of X G z_tup, PySem.W.mg_none_of X G z_list, PySem.W.mg_none_of X G z_len, PySem.W.mg_none_of X G z_all, PySem.W.mg_none_of X G z_any, PySem.W.mg_none_of X G z_sum, PySem.W.mg_none_of X G z_zip, PySem.W.mg_none_of X G z_enum, PySem.W.mg_none_of X G z_max, PySem.W.mg_none_of X G z_min, PySem.W.mg_none_of X G z_rng, PySem.W.mg_none_of X G z_sorted, PySem.W.mg_none_of X G z_set, PySem.W.mg_none_of X G z_abs, ⟨_, PySem.W.mg_of X G z_mkk⟩, ⟨_, PySem.W.mg_of X G z_mc⟩, ⟨_, PySem.W.mg_of X G z_ml⟩, ⟨_, PySem.W.mg_of X G z_mr⟩⟩
theorem all_mk {l : PySem.W.OpenLaw} {w : World} {fa fL fi C : Addr} {ocL oci : Value} {odL anL odi ani : Option Addr} {oslL osli : Array (Option Value)} {kVL docL pmL cdL ctL kVi doci pmi cdi cti : Value} (X : K.In h) (G : h.Ns mainGlobals mg) (hfa : mg "law" = some (.ref fa)) (T : Txt mg)
    (d_p_is_integer : Def K mg "is_integer" ["thing"] sInteger)
    (d_p_is_within : Def K mg "is_within" ["thing", "least", "most"] sWithin)
    (d_p_is_counts : Def K mg "is_counts" ["many", "thing"] sCounts)
    (d_p_is_at_most : Def K mg "is_at_most" ["one", "other"] sAtMost)
    (d_p_first_wrong_counts : Def K mg "first_wrong_counts" ["many", "lots"] sFirst)
    (d_p_is_row_of : Def K mg "is_row_of" ["kinds", "thing"] sRowOf)
    (d_p_check_row : Def K mg "check_row" ["kinds", "thing"] sCheck)
    (d_p_begin : Def K mg "begin" ["kinds"] sBegin)
    (d_p_caps : Def K mg "caps" ["kinds"] sCaps)
    (d_p_with_one : Def K mg "with_one" ["counts", "kind"] sWithOne)
    (d_p_capped : Def K mg "capped" ["kinds", "counts"] sCapped)
    (d_p_step : Def K mg "step" ["kinds", "counts", "kind"] sStep)
    (d_p_run : Def K mg "run" ["kinds", "state", "row"] sRun)
    (d_p_entered_in : Def K mg "entered_in" ["kinds", "row"] sEnteredIn)
    (d_p_entered : Def K mg "entered" ["kinds", "row"] sEntered)
    (d_p_counted : Def K mg "counted" ["kinds", "row", "flags", "times"] sCounted)
    (d_p_entered_counts : Def K mg "entered_counts" ["kinds", "row"] sEnteredCounts)
    (d_law_hand : Def K mg "_law_hand" ["_law_script"] sHand)
    (d_law_draw : Def K mg "_law_draw" ["_law_hand_here", "_law_many"] sDraw)
    (d_law_is : Def K mg "_law_is" ["_law_told", "_law_due"] sIs)
    (d_law_are_below : Def K mg "_law_are_below" ["_law_one", "_law_other"] sBelow)
    (d_law_counts : Def K mg "_law_counts" ["_law_hand_here", "_law_many"] sLCounts)
    (d_law_kind_lots : Def K mg "_law_kind_lots" ["_law_hand_here", "_law_many", "_law_most"] sKindLots)
    (d_law_step : Def K mg "_law_step" ["_law_lots", "_law_counts_here", "_law_kind"] sLStep)
    (d_law_through : Def K mg "_law_through" ["_law_many", "_law_lots", "_law_row"] sThrough)
    (d_law_kind_row : Def K mg "_law_kind_row" ["_law_hand_here", "_law_many", "_law_most"] sKindRow)
    (d_law_level : Def K mg "_law_level" ["_law_hand_here"] sLevel)
    (aL : PySem.W.nsIn K mainGlobals "law" = some (some (.ref fL))) (lL : K.lookup fL = some ⟨ocL, odL, .func (PySem.W.fnOf "law" "law" (defArgs sLaw) (defBody sLaw) (defScope sLaw) .none kVL docL pmL anL cdL ctL), oslL⟩) (cL : PySem.W.codeIn K cdL "law" = true) (kL : PySem.W.keepIn K (.ref fL) = true)
    (aC : PySem.W.nsIn K mainGlobals "Kinds" = some (some (.ref C))) (ai : PySem.W.findIn K (.ref C) "__init__" = some (some (.ref fi))) (ii : PySem.W.isFn K (.ref fi) = true)
    (li : K.lookup fi = some ⟨oci, odi, .func (PySem.W.fnOf "__init__" "Kinds.__init__" (defArgs sInit) (defBody sInit) (defScope sInit) .none kVi doci pmi ani cdi cti), osli⟩) (ci : PySem.W.codeIn K cdi "Kinds.__init__" = true) (ki : PySem.W.keepIn K (.ref fi) = true)
    (pg : PySem.W.plainGet K C Str.empty = true) (hd : PySem.W.hasDictIn K C = true) (po : PySem.W.plainOver K C = true)
    (sa : PySem.W.findIn K (.ref C) "__setattr__" = some (some (.builtin "object.__setattr__"))) (mk : PySem.W.makesIn K C = true) (kc : PySem.W.keepIn K (.ref C) = true)
    (nM : PySem.W.findIn K (.ref C) "many" = some none) (nL : PySem.W.findIn K (.ref C) "lots" = some none) :
    ∃ fd : FuncData, (∀ (s : Shared) (v : Value), BindsTo s fd ⟨[v], []⟩ [("_law_script", v)]) ∧ ∀ base : Heap, K.In base → base.Ns mainGlobals mg → FnOk l.prog w K mg base CX0 7 fa fd ["_law_script"] (spLaw K) := by
  have e := hfa.symm.trans (PySem.W.mg_of X G aL)
  cases e
  have KC : KCls K C := ⟨⟨pg, hd, po, sa⟩, nM, nL⟩
  have FL := fun_mk (st := sLaw) lL cL kL
  have FI := fun_mk (st := sInit) li ci ki
  have bI := FI.binds (ps := ["self", "many", "lots"]) fun _ _ _ _ _ _ us hl => match us, hl with | [_, _, _], _ => rfl
  refine ⟨PySem.W.fnOf "law" "law" (defArgs sLaw) (defBody sLaw) (defScope sLaw) .none kVL docL pmL anL cdL ctL, fun s v => .of_eq rfl, fun base _ _ => ?_⟩
  have c1 : Cl l.prog w K mg base 1 "is_integer" ["thing"] spInteger := cl_integer d_p_is_integer T
  have c2 := cl_within d_p_is_within c1
  have c3 := cl_counts d_p_is_counts T c2
  have c4 : Cl l.prog w K mg base 1 "is_at_most" ["one", "other"] (spAtMost K) := cl_atMost d_p_is_at_most T
  have c5 := cl_first d_p_first_wrong_counts T c3 c4
  have c6 := ok_init FI T KC c2 c5
  have c7 := cl_rowOf d_p_is_row_of T KC c2
  have c8 := cl_check d_p_check_row c7
  have c9 : Cl l.prog w K mg base 1 "begin" ["kinds"] (spBegin K C) := cl_begin d_p_begin KC
  have c10 : Cl l.prog w K mg base 1 "caps" ["kinds"] (spCaps K C) := cl_caps d_p_caps T KC
  have c11 : Cl l.prog w K mg base 1 "with_one" ["counts", "kind"] (spWithOne K) := cl_withOne d_p_with_one
  have c12 := cl_capped d_p_capped T c10
  have c13 := cl_step d_p_step T KC c4 c11 c12
  have c14 := cl_run d_p_run c13
  have c15 := cl_enteredIn d_p_entered_in c14 c9
  have c16 := cl_entered d_p_entered c8 c15
  have c17 : Cl l.prog w K mg base 1 "counted" ["kinds", "row", "flags", "times"] (spCounted K C) := cl_counted d_p_counted T KC
  have c18 := cl_enteredCounts d_p_entered_counts T c8 c15 c17
  have e1 : Cl l.prog w K mg base 1 "_law_hand" ["_law_script"] (spHand K) := cl_hand d_law_hand T
  have e2 : Cl l.prog w K mg base 1 "_law_draw" ["_law_hand_here", "_law_many"] spDraw := cl_draw d_law_draw T
  have e3 : Cl l.prog w K mg base 1 "_law_is" ["_law_told", "_law_due"] spIs1 := cl_is1 d_law_is T
  have e4 := cl_isN d_law_is T e3
  have e5 : Cl l.prog w K mg base 1 "_law_are_below" ["_law_one", "_law_other"] (spAtMost K) := cl_below d_law_are_below T
  have e6 := cl_lcounts (K := K) d_law_counts T e2
  have e7 := cl_kindLots d_law_kind_lots T e2 e6 e5
  have e8 := cl_lstep d_law_step T e5
  have e9 := cl_through d_law_through e8
  have e10 := cl_kindRow (K := K) d_law_kind_row T e2
  have e11 := cl_level (K := K) d_law_level T e2
  exact ok_law FL T KC ⟨e1, e2, e7, e11, e10, e9, c16, c18, e4⟩ ⟨mk, ai, ii, kc⟩ c6 bI (PySem.W.mg_of X G aC)
end
end LK
open PySem.W PySem PyProof.Rows

theorem PySem.Challenge.cw_lastoflot_k78_whole_comers_by_kinds_holds : PySem.Challenge.rw_lastoflot_k78_whole_comers_by_kinds.Holds := by
  w_on
  o_law
  k_head
  (case hw => w_witness2)
  k_fill
  refine L2.walk_ofK (l := PySem.Challenge.rw_lastoflot_k78_whole_comers_by_kinds) (n := 63) (k := 7) (x := "_law_script") (CX := L2.CX0) (sp := LK.spLaw) rfl (by decide) rfl ⟨rfl, by decide, by decide⟩ (fun w h Y => PySem.W.kIn_of Y) ?F (fun _ _ a ns hl _ hS => ⟨a, ns, rfl, hS, hl, fun _ => rfl⟩) (fun _ _ _ _ h => h)
  case F =>
    intro w mg fa h KX G hmg
    refine' LK.all_mk KX G hmg (LK.txt_mk KX G ?z_isi ?z_int ?z_bool ?z_tup ?z_list ?z_len ?z_all ?z_any ?z_sum ?z_zip ?z_enum ?z_max ?z_min ?z_rng ?z_sorted ?z_set ?z_abs ?z_mkk ?z_mc ?z_ml ?z_mr) (LK.mk_is_integer KX G ?a_sInteger ?l_sInteger ?c_sInteger ?k_sInteger) (LK.mk_is_within KX G ?a_sWithin ?l_sWithin ?c_sWithin ?k_sWithin) (LK.mk_is_counts KX G ?a_sCounts ?l_sCounts ?c_sCounts ?k_sCounts) (LK.mk_is_at_most KX G ?a_sAtMost ?l_sAtMost ?c_sAtMost ?k_sAtMost) (LK.mk_first_wrong_counts KX G ?a_sFirst ?l_sFirst ?c_sFirst ?k_sFirst) (LK.mk_is_row_of KX G ?a_sRowOf ?l_sRowOf ?c_sRowOf ?k_sRowOf) (LK.mk_check_row KX G ?a_sCheck ?l_sCheck ?c_sCheck ?k_sCheck) (LK.mk_begin KX G ?a_sBegin ?l_sBegin ?c_sBegin ?k_sBegin) (LK.mk_caps KX G ?a_sCaps ?l_sCaps ?c_sCaps ?k_sCaps) (LK.mk_with_one KX G ?a_sWithOne ?l_sWithOne ?c_sWithOne ?k_sWithOne) (LK.mk_capped KX G ?a_sCapped ?l_sCapped ?c_sCapped ?k_sCapped) (LK.mk_step KX G ?a_sStep ?l_sStep ?c_sStep ?k_sStep) (LK.mk_run KX G ?a_sRun ?l_sRun ?c_sRun ?k_sRun) (LK.mk_entered_in KX G ?a_sEnteredIn ?l_sEnteredIn ?c_sEnteredIn ?k_sEnteredIn) (LK.mk_entered KX G ?a_sEntered ?l_sEntered ?c_sEntered ?k_sEntered) (LK.mk_counted KX G ?a_sCounted ?l_sCounted ?c_sCounted ?k_sCounted) (LK.mk_entered_counts KX G ?a_sEnteredCounts ?l_sEnteredCounts ?c_sEnteredCounts ?k_sEnteredCounts) (LK.mk_law_hand KX G ?a_sHand ?l_sHand ?c_sHand ?k_sHand) (LK.mk_law_draw KX G ?a_sDraw ?l_sDraw ?c_sDraw ?k_sDraw) (LK.mk_law_is KX G ?a_sIs ?l_sIs ?c_sIs ?k_sIs) (LK.mk_law_are_below KX G ?a_sBelow ?l_sBelow ?c_sBelow ?k_sBelow) (LK.mk_law_counts KX G ?a_sLCounts ?l_sLCounts ?c_sLCounts ?k_sLCounts) (LK.mk_law_kind_lots KX G ?a_sKindLots ?l_sKindLots ?c_sKindLots ?k_sKindLots) (LK.mk_law_step KX G ?a_sLStep ?l_sLStep ?c_sLStep ?k_sLStep) (LK.mk_law_through KX G ?a_sThrough ?l_sThrough ?c_sThrough ?k_sThrough) (LK.mk_law_kind_row KX G ?a_sKindRow ?l_sKindRow ?c_sKindRow ?k_sKindRow) (LK.mk_law_level KX G ?a_sLevel ?l_sLevel ?c_sLevel ?k_sLevel) ?aL ?lL ?cL ?kL ?aC ?ai ?ii ?li ?ci ?ki ?pg ?hd ?po ?sa ?mk ?kc ?nM ?nL
    (case z_isi => k_is)
    (case z_int => k_is)
    (case z_bool => k_is)
    (case z_tup => k_is)
    (case z_list => k_is)
    (case z_len => k_is)
    (case z_all => k_is)
    (case z_any => k_is)
    (case z_sum => k_is)
    (case z_zip => k_is)
    (case z_enum => k_is)
    (case z_max => k_is)
    (case z_min => k_is)
    (case z_rng => k_is)
    (case z_sorted => k_is)
    (case z_set => k_is)
    (case z_abs => k_is)
    (case z_mkk => k_is)
    (case z_mc => k_is)
    (case z_ml => k_is)
    (case z_mr => k_is)
    (case a_sInteger => k_is)
    (case l_sInteger => k_is)
    (case c_sInteger => k_is)
    (case k_sInteger => k_is)
    (case a_sWithin => k_is)
    (case l_sWithin => k_is)
    (case c_sWithin => k_is)
    (case k_sWithin => k_is)
    (case a_sCounts => k_is)
    (case l_sCounts => k_is)
    (case c_sCounts => k_is)
    (case k_sCounts => k_is)
    (case a_sAtMost => k_is)
    (case l_sAtMost => k_is)
    (case c_sAtMost => k_is)
    (case k_sAtMost => k_is)
    (case a_sFirst => k_is)
    (case l_sFirst => k_is)
    (case c_sFirst => k_is)
    (case k_sFirst => k_is)
    (case a_sRowOf => k_is)
    (case l_sRowOf => k_is)
    (case c_sRowOf => k_is)
    (case k_sRowOf => k_is)
    (case a_sCheck => k_is)
    (case l_sCheck => k_is)
    (case c_sCheck => k_is)
    (case k_sCheck => k_is)
    (case a_sBegin => k_is)
    (case l_sBegin => k_is)
    (case c_sBegin => k_is)
    (case k_sBegin => k_is)
    (case a_sCaps => k_is)
    (case l_sCaps => k_is)
    (case c_sCaps => k_is)
    (case k_sCaps => k_is)
    (case a_sWithOne => k_is)
    (case l_sWithOne => k_is)
    (case c_sWithOne => k_is)
    (case k_sWithOne => k_is)
    (case a_sCapped => k_is)
    (case l_sCapped => k_is)
    (case c_sCapped => k_is)
    (case k_sCapped => k_is)
    (case a_sStep => k_is)
    (case l_sStep => k_is)
    (case c_sStep => k_is)
    (case k_sStep => k_is)
    (case a_sRun => k_is)
    (case l_sRun => k_is)
    (case c_sRun => k_is)
    (case k_sRun => k_is)
    (case a_sEnteredIn => k_is)
    (case l_sEnteredIn => k_is)
    (case c_sEnteredIn => k_is)
    (case k_sEnteredIn => k_is)
    (case a_sEntered => k_is)
    (case l_sEntered => k_is)
    (case c_sEntered => k_is)
    (case k_sEntered => k_is)
    (case a_sCounted => k_is)
    (case l_sCounted => k_is)
    (case c_sCounted => k_is)
    (case k_sCounted => k_is)
    (case a_sEnteredCounts => k_is)
    (case l_sEnteredCounts => k_is)
    (case c_sEnteredCounts => k_is)
    (case k_sEnteredCounts => k_is)
    (case a_sHand => k_is)
    (case l_sHand => k_is)
    (case c_sHand => k_is)
    (case k_sHand => k_is)
    (case a_sDraw => k_is)
    (case l_sDraw => k_is)
    (case c_sDraw => k_is)
    (case k_sDraw => k_is)
    (case a_sIs => k_is)
    (case l_sIs => k_is)
    (case c_sIs => k_is)
    (case k_sIs => k_is)
    (case a_sBelow => k_is)
    (case l_sBelow => k_is)
    (case c_sBelow => k_is)
    (case k_sBelow => k_is)
    (case a_sLCounts => k_is)
    (case l_sLCounts => k_is)
    (case c_sLCounts => k_is)
    (case k_sLCounts => k_is)
    (case a_sKindLots => k_is)
    (case l_sKindLots => k_is)
    (case c_sKindLots => k_is)
    (case k_sKindLots => k_is)
    (case a_sLStep => k_is)
    (case l_sLStep => k_is)
    (case c_sLStep => k_is)
    (case k_sLStep => k_is)
    (case a_sThrough => k_is)
    (case l_sThrough => k_is)
    (case c_sThrough => k_is)
    (case k_sThrough => k_is)
    (case a_sKindRow => k_is)
    (case l_sKindRow => k_is)
    (case c_sKindRow => k_is)
    (case k_sKindRow => k_is)
    (case a_sLevel => k_is)
    (case l_sLevel => k_is)
    (case c_sLevel => k_is)
    (case k_sLevel => k_is)
    (case aL => k_is)
    (case lL => k_is)
    (case cL => k_is)
    (case kL => k_is)
    (case aC => k_is)
    (case ai => k_is)
    (case ii => k_is)
    (case li => k_is)
    (case ci => k_is)
    (case ki => k_is)
    (case pg => k_is)
    (case hd => k_is)
    (case po => k_is)
    (case sa => k_is)
    (case mk => k_is)
    (case kc => k_is)
    (case nM => k_is)
    (case nL => k_is)
