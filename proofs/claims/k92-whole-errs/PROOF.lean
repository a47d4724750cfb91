import PyProof.Rows.All
import Wide.All
import OpenK.AllK
import Wide.FinOn
import HandS.ForMost
import HandS.Conv
import HandS.Walk
import KE.KTupSum
import KE.GoesMore
import KE.GoesEnum
import HandS.TupSets
import KE.KDictDisplayH
import KE.KDictPairs
import KE.KDictCopyH
import KE.KDictSum
import HandS.IsInst
import HandS.Defaults
import HandS.Deep
import HandS.TupAny
import HandS.TupMul
import HandS.TupLen
import HandS.WordsDict
import HandS.Style
import HandS.Lambda
import HandS.SortKw
import KE.SortKeyHeap
import HandS.TupLe
import HandS.EndTab
import PySem.Challenge.RW_passersby_k92_whole_errs_just_where_a_pa
set_option Elab.async false
set_option linter.all false
set_option maxRecDepth 100000
set_option maxHeartbeats 8000000
namespace PB
open PySem PySem.Spec PyProof.Rows L2
open AutoSeq1 (wpAny_loadPart')
section
variable {X : Cx}
/-- sum of a tuple of ints -/
def rSumT : List V → Hp → VK → Prop := fun vs H Q => ∃ (a : Addr) (ns : List Int), vs = [V.ref a] ∧ H a = some (.tup (ns.map V.int)) ∧ Q (.int ns.sum) H
theorem cr_sumT (hc : X.calm = true) : CallR X (.builtin "sum") rSumT := by
  intro pins s σ H vs us Q I r h
  obtain ⟨a, ns, rfl, hs, q⟩ := h
  obtain ⟨its, rv, hl, _⟩ := I.tuple (SqT.of hs)
  rw [Vals.ref1 r]
  have hi := rv.ints
  have ht : s.heap.IsTuple a its.toArray := hl
  obtain ⟨xs, hx⟩ := hi.allInts.items
  have hn : numsOf its.toArray.toList = ns := by rw [show its.toArray.toList = its from rfl, hi.numsOf]
  rw [hx] at ht hn
  rw [nums_intItems] at hn
  refine PySem.W.ktm_sumG (I.ok.hd hc) ht fun h' tk t' hk => ?_
  rw [preSum_eq, List.take_of_length_le (by simp), hn]
  exact ⟨.int _, H, I.kept hk, ⟨_, rfl⟩, q⟩

/-- repr of a truth -/
def reprB (b : Bool) : Str := if b = true then "True" else "False"
theorem cr_reprB : CallR X (.builtin "repr") (fun xs H Q => ∃ b, xs = [.bl b] ∧ Q (.str (reprB b)) H) := by
  intro pins s σ H vs us Q I r h
  obtain ⟨b, rfl, q⟩ := h
  obtain ⟨v, rfl, rb⟩ := vals1 r
  cases rb
  exact PySem.P.repr_of_bool ⟨.str _, H, I.tok _, ⟨_, rfl⟩, q⟩
end

/-! ### enumerate of a tuple -/
theorem meets_enumerate_newT (l : Addr) (items : Array Value) (n : Nat) (dct : Option Addr) (sl : Array (Option Value)) :
    Meets (Builtin.«enumerate.__new__» ⟨[.type "enumerate", .ref l], []⟩) (fun _ R s => s.heap.get? l = some { cls := .type "tuple", dict := dct, data := .seq items n, slots := sl } ∧
      R (.ok (.ret (.ref (s.heap.push { cls := .type "tuple_iterator", data := .fields #[.ref l, .int 0 0] }).objs.size)))
        { s with heap := (s.heap.push { cls := .type "tuple_iterator", data := .fields #[.ref l, .int 0 0] }).push { cls := .type "enumerate", data := .fields #[.none, .bool false, .ref s.heap.objs.size, rawInt 0, .none, .none] } }) :=
  .of_wp fun prog w A R s h => by
    obtain ⟨hp, g, d, tk, os⟩ := s; obtain ⟨hl, h⟩ := h
    have hsub := sub_enumerate
    have hL : Heap.IsTuple (Shared.heap ⟨hp, g, d, tk, os⟩) l items := ⟨_, hl, rfl, n, rfl⟩
    wp_walk using wpAny_loadPart' hl
    refine wpAny_stack_any fun st => wpAny_pure ?_
    split
    · rename_i c _ _ _ _ _
      cases (c == Value.type "enumerate")
      · wp_walk using wpAny_loadPart' hl, wpAny_pyIter_tuple hL
        exact ⟨_, rfl, h⟩
      · wp_walk using wpAny_loadPart' hl, wpAny_pyIter_tuple hL
        exact ⟨_, rfl, h⟩
    · wp_walk using wpAny_loadPart' hl, wpAny_pyIter_tuple hL
      exact ⟨_, rfl, h⟩
section
variable {prog : Program} {w : World} {A : Around} {E : Value → Shared → Prop} {s : Shared}
theorem call_enumerate_tuple {l : Addr} {items : Array Value} {Q : Value → Shared → Prop} (hL : s.heap.IsTuple l items)
    (h : ∀ h', IsEnum h' (s.heap.objs.size + 1) s.heap.objs.size 0 .none → h'.IsTupleIter s.heap.objs.size l 0 → h'.objs.size = s.heap.objs.size + 2 →
      (∀ b o, s.heap.get? b = some o → h'.get? b = some o) → Q (.ref (s.heap.objs.size + 1)) { s with heap := h' }) :
    wpAny (model prog w) A (call (.type "enumerate") [.ref l]) Q E s := by
  obtain ⟨⟨c, dct, dt, sl⟩, hl, hc, n, hd⟩ := hL
  replace hc : c = .type "tuple" := hc
  replace hd : dt = .seq items n := hd
  subst hc hd
  refine callType_new F.called_enumerate (by decide) (F.typeCall_enumerate_1 _) (F.newCall_enumerate_1 _) (fun obj => F.args_object_init_2 obj _) F.entry_enumerate_new
    (meets_enumerate_newT l items n dct sl) ⟨hl, ?_⟩
  have hz : (s.heap.push { cls := .type "tuple_iterator", data := .fields #[.ref l, .int 0 0] }).objs.size = s.heap.objs.size + 1 := Heap.size_push ..
  show _ ∧ _
  rw [hz]
  have he : IsEnum ((s.heap.push { cls := .type "tuple_iterator", data := .fields #[.ref l, .int 0 0] }).push
      { cls := .type "enumerate", data := .fields #[.none, .bool false, .ref s.heap.objs.size, rawInt 0, .none, .none] }) (s.heap.objs.size + 1) s.heap.objs.size 0 .none := by
    have := Heap.get?_push_size (s.heap.push { cls := .type "tuple_iterator", data := .fields #[.ref l, .int 0 0] })
      (o := { cls := .type "enumerate", data := .fields #[.none, .bool false, .ref s.heap.objs.size, rawInt 0, .none, .none] }) rfl
    rw [hz] at this; exact this
  refine ⟨⟨_, he, rfl⟩, h _ he ⟨_, Heap.get?_push_of_some _ (Heap.get?_push_size _ rfl), rfl, rfl⟩ (by rw [Heap.size_push, hz]) fun b o x => Heap.get?_push_of_some _ (Heap.get?_push_of_some _ x)⟩
end
/-- the tuple at a, each item in a new pair with its number -/
def IteT (K : PySem.W.Frag) (a : Addr) : It :=
  ⟨fun i H => ∃ (xs : List V) (x : V), SqT K H a xs ∧ xs[i]? = some x, fun i H v H' => ∃ T x, v = .ref T ∧ H T = none ∧ H' = upd H T (.tup [.int (i : Nat), x]) ∧ ∀ xs, SqT K H a xs → xs[i]? = some x, fun i H => ∃ xs : List V, SqT K H a xs ∧ xs.length = i⟩
theorem turn_enumT {P : Program} {w : World} {K : PySem.W.Frag} {elts : List Expr} {kk : Nat} {tpos : Pos} (a e it : Addr) :
    Turn P w K (.Tuple elts kk tpos) (IteT K a) [e, it] e (fun i h => (∃ old, IsEnum h e it ((i : Nat) : Int) old) ∧ h.IsTupleIter it a i ∧ e ≠ it ∧ a ≠ it ∧ a ≠ e) where
  mem := by simp
  obj := fun i h st b hb => by
    obtain ⟨⟨old, he⟩, ⟨o, ho, hc, hd⟩, _⟩ := st
    have e' : b = e ∨ b = it := by simpa using hb
    rcases e' with z | z
    · rw [z]; exact ⟨_, he, fun v q => nomatch q⟩
    · rw [z]; exact ⟨o, ho, fun v q => by rw [hd] at q; cases q⟩
  keep := fun i h h' st k => let ⟨⟨old, he⟩, hi, hne⟩ := st; ⟨⟨old, k e (by simp) _ he⟩, hi.at fun o q => k it (by simp) o q, hne⟩
  item := by
    intro X hP hw hK hc i pins s σ H E I hf st hg
    subst hP hw hK
    obtain ⟨⟨old, he⟩, hit, hne, hai, hae⟩ := st
    obtain ⟨xs, x, hq, hx⟩ := hg
    obtain ⟨its, rv, p, hz⟩ := I.tuple hq
    have p : s.heap.IsTuple a its.toArray := p
    obtain ⟨u, hu, ru⟩ := rv.get hx
    have hlt : i < its.toArray.size := by
      have := (List.getElem?_eq_some_iff.mp hu).1
      simpa using this
    have hel : e < s.heap.objs.size := Heap.lt_size he
    have hil : it < s.heap.objs.size := by obtain ⟨_, q, _⟩ := hit; exact Heap.lt_size q
    have nae : e ∉ [it, a] := by simp [hne, Ne.symm hae]
    refine wpAny_pyNext_enum_itemD (Draws.tuple (A := X.A.in1) (I.ok.hd hc) it a hai its.toArray) he ⟨hit, p⟩ hlt hne nae fun y h' tk hy ho hst' hT hsz hk => ?_
    have ey : y = u := by
      have hy' : its[i]? = some y := by simpa using hy
      rw [hu] at hy'
      exact (Option.some.inj hy').symm
    subst ey
    refine ⟨_, rfl, wpAny_letOwnedTupleGo_enum (s := { s with heap := h', toks := tk + 1 }) ho fun h'' he' sb => ?_⟩
    have hT2 : h''.get? s.heap.objs.size = some { cls := .type "tuple", data := .seq #[.int i tk, y] } := (sb.2 _ (Nat.ne_of_gt hel)).trans hT
    have new : ObjOk X.prog X.w (upd H s.heap.objs.size (.tup [.int (i : Nat), x])) h'' s.heap.objs.size (.tup [.int (i : Nat), x]) :=
      ⟨by show 2 ≤ sizeLine; decide, [.int i tk, y], .cons ⟨_, rfl⟩ (.cons ru .nil), ⟨_, hT2, rfl, _, rfl⟩⟩
    have I1 : Inv X pins σ (upd H s.heap.objs.size (.tup [.int (i : Nat), x])) { s with heap := h'', toks := tk + 1 } :=
      I.turnedNew (ch := [e, it]) (fun b ob hb q => (sb.2 b (fun z => hb (by simp [z]))).trans (hk b ob (fun z => hb (by simp [z])) (fun z => hb (by simp [z])) q)) hf (Nat.le_refl _) new
    have sbi : h''.get? it = h'.get? it := sb.2 it (Ne.symm hne)
    refine ⟨.ref s.heap.objs.size, _, I1, rfl, ⟨_, x, rfl, I.hok.fresh (Nat.le_refl _), rfl, fun ys hy => ?_⟩, ⟨⟨y, ?_⟩, hst'.1.at fun o q => sbi.trans q, hne, hai, hae⟩, fun b hb => ?_⟩
    · rw [I.tuple_inj hy hq]
      exact hx
    · have e1 : ((i + 1 : Nat) : Int) = (i : Int) + 1 := by omega
      rw [e1]; exact he'
    · have hb' : b < s.heap.objs.size := by
        have e' : b = e ∨ b = it := by simpa using hb
        rcases e' with z | z
        · rw [z]; exact hel
        · rw [z]; exact hil
      rw [upd_ne (Nat.ne_of_lt hb')]
      exact (hf b hb).1
  done := by
    intro X hP hw hK hc i pins s σ H E I hf st hg
    subst hP hw hK
    obtain ⟨⟨old, he⟩, hit, hne, hai, hae⟩ := st
    obtain ⟨xs, hq, hx⟩ := hg
    obtain ⟨its, rv, p, hz⟩ := I.tuple hq
    have p : s.heap.IsTuple a its.toArray := p
    obtain ⟨f0, f1, f2, f3, f4, f5⟩ := hf it (by simp)
    have hl := rv.length
    have hn : its.toArray.size = i := by simp; omega
    refine wpAny_pyNext_enum_endD (Draws.tuple (A := X.A.in1) (I.ok.hd hc) it a hai its.toArray) he (by rw [hn]; exact ⟨hit, p⟩) fun h' eb => ⟨rfl, I.turned (t' := s.toks) (fun b o hb q => eb b o hb q) f0 f1 f3 f4 f5⟩
  self := fun A i s Q E st h => let ⟨⟨_, he⟩, _⟩ := st; wpAny_pyIter_enum he h
def iEnumT (K : PySem.W.Frag) (ta : TA) : TI := fun σ H R => ta σ H fun vs H1 => ∃ a xs, vs = [.ref a] ∧ SqT K H1 a xs ∧ R (IteT K a) H1
theorem pi_enumT {X : Cx} {e : Expr} {ta : TA} {p pos tpos : Pos} {elts : List Expr} {kk : Nat} (hg : Gl X "enumerate") (hm : X.mg "enumerate" = none) (ha : PA X [e] ta) (hs : starEach [e] X.env = [(false, eval e X.env)] := by rfl) :
    PI X (.Tuple elts kk tpos) (.Call (.Name "enumerate" p) [e] [] pos) (iEnumT X.K ta) := by
  refine ⟨fun pins s σ H R I h => ?_⟩
  refine Call_ (ld_blt I hg hm boot_enumerate (PyProof.Rows.callWith_type1 (thn (ha.run pos pins s σ H _ I h) fun us s1 ⟨vs, H1, I1, r1, q1⟩ => ?_) hs rfl))
  obtain ⟨a, xs, ex, hq, q⟩ := q1
  subst ex
  cases r1 with
  | cons r rr =>
    cases rr
    cases r
    obtain ⟨its, rv, p', hz⟩ := I1.tuple hq
    have p' : s1.heap.IsTuple a its.toArray := p'
    have hal : a < s1.heap.objs.size := let ⟨_, ho, _⟩ := p'; Heap.lt_size ho
    refine call_enumerate_tuple p' fun h' he hit hsz hk => wpAny_pyIter_enum he ?_
    have I2 : Inv X pins σ H1 { s1 with heap := h' } := I1.kept (t' := s1.toks) hk
    refine ⟨s1.heap.objs.size + 1, [s1.heap.objs.size + 1, s1.heap.objs.size], _, _, H1, rfl, I2, turn_enumT a (s1.heap.objs.size + 1) s1.heap.objs.size, ⟨⟨.none, he⟩, hit, Nat.succ_ne_self _, Nat.ne_of_lt hal, Nat.ne_of_lt (Nat.lt_succ_of_lt hal)⟩, fun b hb => ?_, q⟩
    have e' : b = s1.heap.objs.size + 1 ∨ b = s1.heap.objs.size := by simpa using hb
    have hle : s1.heap.objs.size ≤ b := by
      rcases e' with z | z
      · rw [z]; exact Nat.le_add_right _ _
      · rw [z]; exact Nat.le_refl _
    exact I1.fpOk hle (I1.hok.fresh hle)
theorem walk_enumT {K : PySem.W.Frag} {a : Addr} {xs : List V} : Walk (IteT K a) xs.length (fun H => SqT K H a xs) (YPair (fun i => some (.int (i : Nat))) (fun i => xs[i]?)) := by
  refine ⟨fun i _ hi q => ⟨xs, xs[i], q, by simp [hi]⟩, fun _ q => ⟨xs, q, rfl⟩, fun i H v H' _ q y => ?_⟩
  obtain ⟨T, x, h1, h2, h3, h4⟩ := y
  exact ⟨T, .int (i : Nat), x, h1, h2, h3, rfl, h4 xs q⟩
end PB
namespace PB
open PySem PySem.Spec PyProof.Rows L2
section
variable {X : Cx}
/-! ### {k: v}, k a tuple -/
def tDispT (tk tv : TE) : TE := fun σ H Q => ∀ p, H p = none → tk σ (upd H p (.dT [])) fun x H1 => tv σ H1 fun y H2 => H2 p = some (.dT []) ∧ ∃ (b : Addr) (ks : List L2.Key), x = .ref b ∧ H2 b = some (.tup (ks.map kV)) ∧ Q (.ref p) (upd H2 p (.dT [(ks, y)]))
theorem pe_dispT {k v : Expr} {tk tv : TE} {pos : Pos} (hu : X.A.units + 1 < cLine) (hk : PE X k tk) (hv : PE X v tv) : PE X (.Dict [some k] [v] pos) (tDispT tk tv) := by
  refine ⟨fun pins s σ H Q I q => ?_⟩
  have hn := I.hok.fresh (Nat.le_refl s.heap.objs.size)
  have I1 := I.laid (a := s.heap.objs.size) (o := .dT []) (h' := s.heap.push { cls := .type "dict", data := .dict #[] }) (t' := s.toks) (fun _ _ q => Heap.get?_push_of_some _ q) (Nat.le_refl _) (dt_empty s.heap I.big)
  have hz := zip_pairTrees [some k] [v] X.env pos rfl rfl
  have hpn : pairTrees [some k] [v] X.env pos ≠ [] := by
    intro e
    have hl := pairTrees_length [some k] [v] X.env pos rfl rfl
    rw [e] at hl
    cases hl
  have hpl : (pairTrees [some k] [v] X.env pos).length ≤ 15 := by
    rw [pairTrees_length [some k] [v] X.env pos rfl rfl]
    show 1 ≤ 15
    decide
  rw [arm_eval_Dict, hz, dictDisplay_pairs _ hpn (by omega)]
  refine wpAny_bind (wpAny_standAt (wpAny_bind (wpAny_subDictH (knd := tupleKind (mixKind X.prog X.w)) (Q := fun d s' => wpAny (model X.prog X.w) X.A (pure (Value.ref d)) (EP X pins σ Q) X.xe s') (show X.A.units < cLine by omega) hpl ?_)))
  refine pairTrees_cons_walk (thn (hk.run pins _ σ _ _ I1 (q _ hn)) fun u s1 ⟨x, H1, J1, rx, q1⟩ => thn (hv.run pins s1 σ H1 _ J1 q1) fun w2 s2 ⟨y, H2, J2, ry, e2, b, ks, ex, eb, q2⟩ => pairTrees_nil_walk ?_)
  subst ex
  obtain rfl : u = Value.ref b := rx
  obtain ⟨z, hd, xs, rel, dd⟩ := dt_of J2.hok e2
  cases rel
  refine ⟨[(ks, b, w2)], ⟨rfl, rfl, key_of J2.hok eb, True.intro⟩, dd, fun h' tk dd' hs => wpAny_pure ?_⟩
  have es : storedAllH [] [(ks, b, w2)] = [(ks, b, w2)] := rfl
  rw [es] at dd'
  obtain ⟨ob, es', ep, hq, h2, h3, h4, _, h5⟩ := dd'
  refine ⟨.ref s.heap.objs.size, _, d_write (t' := tk) J2 (by rw [e2]; exact True.intro) hs ⟨ob, hq⟩ (ob := .dT [(ks, y)]) ⟨(by show 1 ≤ sizeLine; decide), hd, [(ks, b, w2)], .cons ⟨rfl, ?_, ry⟩ .nil, ob, es', ep, hq, h2, h3, h4, h5⟩, rfl, q2⟩
  rw [upd_ne (ne_of eb e2 (fun z => nomatch z))]
  exact eb

/-! ### dict(pairs), the keys tuples, no two alike -/
/-- the pairs stand: p is the tuple (key, value) -/
abbrev PairsT (H : Hp) (ps : List Addr) (kvs : List (List L2.Key × V)) : Prop := Paired (fun (p : Addr) (kv : List L2.Key × V) => ∃ b, H p = some (.tup [.ref b, kv.2]) ∧ H b = some (.tup (kv.1.map kV))) ps kvs
theorem pairsT_raw {pins : List (Addr × Obj)} {σ : L2.St} {H : Hp} {s : Shared} (I : Inv X pins σ H s) : ∀ {ps : List Addr} {kvs : List (List L2.Key × V)}, PairsT H ps kvs →
    ∃ raw : List (List L2.Key × Addr × Value), raw.length = ps.length ∧ KT H kvs raw ∧ ∀ (j : Nat) x, raw[j]? = some x → PairAt s.heap (ps.getD j 0) (.ref x.2.1) x.2.2
  | [], _, .nil => ⟨[], rfl, .nil, fun j x e => by simp at e⟩
  | p :: ps, _ :: kvs, .cons h t => by
    obtain ⟨raw, hl, hk, ha⟩ := pairsT_raw I t
    obtain ⟨b, h1, h2⟩ := h
    obtain ⟨its, rv, ht, _⟩ := I.tuple (SqT.of h1)
    cases rv with
    | cons r1 rr =>
      cases rr with
      | cons r2 rr2 =>
        cases rr2
        cases r1
        rename_i u2
        refine ⟨(_, b, u2) :: raw, by rw [List.length_cons, List.length_cons, hl], .cons ⟨rfl, h2, r2⟩ hk, fun j x e => ?_⟩
        cases j with
        | zero =>
          have e' := Option.some.inj (show some _ = some x from e)
          subst e'
          obtain ⟨o, ho, hc, n, hd⟩ := ht
          exact .inl ⟨o, ho, hc, n, hd⟩
        | succ j => exact ha j x (by simpa using e)
theorem nodup_KT {H : Hp} {kvs : List (List L2.Key × V)} {raw : List (List L2.Key × Addr × Value)} (r : KT H kvs raw) : raw.map (·.1) = kvs.map (·.1) := by
  induction r with
  | nil => rfl
  | cons h t ih => rw [List.map_cons, List.map_cons, ih, h.1]
theorem isKey_keep {P : Program} {w : World} {h h' : Heap} {ks : List L2.Key} {b : Addr} (x : (tupleKind (mixKind P w)).is h ks b) (k : ∀ o, h.get? b = some o → h'.get? b = some o) : (tupleKind (mixKind P w)).is h' ks b := by
  obtain ⟨o, its, n, ho, r⟩ := x
  exact ⟨o, its, n, k o ho, r⟩
theorem refsOf {H : Hp} : ∀ {ps : List Addr} {us : List Value}, Vals (ps.map V.ref) us → us = ps.map Value.ref
  | [], _, .nil => rfl
  | p :: ps, _, .cons r t => by
    cases r
    rw [List.map_cons, ← refsOf (H := H) t]
theorem dictT_fin {pins : List (Addr × Obj)} {σ : L2.St} {H : Hp} {s : Shared} {Q : VK} {T : String} {a : Addr} {fp : List Addr} {OK : Heap → Prop} {ps : List Addr} {kvs : List (List L2.Key × V)} {raw : List (List L2.Key × Addr × Value)}
    (I : Inv X pins σ H s) (hc : X.calm = true) (hu : X.A.units + 64 < cLine) (hl : raw.length = ps.length) (hk : KT H kvs raw) (hz : ps.length ≤ sizeLine) (hn : (kvs.map (·.1)).Nodup)
    (P : PairArg X.prog X.w T a fp [] (raw.map fun x => (Value.ref x.2.1, x.2.2)).length (PairRel (raw.map fun x => (Value.ref x.2.1, x.2.2))) OK) (ok : OK s.heap) (q : ∀ p, H p = none → Q (.ref p) (upd H p (.dT kvs))) :
    wpAny (model X.prog X.w) X.A (call (.type "dict") [.ref a]) (EP X pins σ Q) X.xe s := by
  have hnr : (raw.map (·.1)).Nodup := by rw [nodup_KT hk]; exact hn
  have keyIs : ∀ x ∈ raw, (tupleKind (mixKind X.prog X.w)).is s.heap x.1 x.2.1 := by
    have all : ∀ {l : List (List L2.Key × V)} {m : List (List L2.Key × Addr × Value)}, KT H l m → ∀ x ∈ m, (tupleKind (mixKind X.prog X.w)).is s.heap x.1 x.2.1 := by
      intro l m q
      induction q with
      | nil => intro x hx; exact nomatch hx
      | @cons p q ps qs hq t ih =>
        intro x hx
        rcases List.mem_cons.mp hx with e | hx
        · subst e
          exact key_of I.hok (by rw [← hq.1]; exact hq.2.1)
        · exact ih x hx
    exact all hk
  refine call_dict_pairsH (knd := tupleKind (mixKind X.prog X.w)) (ps := raw) P (I.ok.hd hc) (show X.A.units + 1 + 1 < cLine by omega) ok ⟨by rw [List.length_map], fun i key v e => ?_⟩ (fun h' k x hx => ?_) (by rw [List.length_map, hl]; exact hz) fun h' tk dd k => ?_
  · have e : (raw.map fun x => (Value.ref x.2.1, x.2.2))[i]? = some (key, v) := e
    rw [List.getElem?_map] at e
    cases e2 : raw[i]? with
    | none => rw [e2] at e; cases e
    | some x =>
      rw [e2] at e
      cases e
      exact ⟨x.1, x.2.1, rfl, rfl⟩
  · have z := keyIs x hx
    exact isKey_keep z fun o ho => k _ o (Nat.ne_of_lt (Heap.lt_size ho)) (fun q => nomatch q) ho
  · rw [storedAllH_nil_of_nodup raw hnr] at dd
    obtain ⟨ob, es, ep, h1, h2, h3, h4, _, h5⟩ := dd
    have hp : H s.heap.objs.size = none := I.hok.fresh (Nat.le_refl _)
    have hm : (s.heap.objs.size == sysModules) = false := beq_eq_false_iff_ne.mpr (Nat.ne_of_gt I.big)
    have hlen : kvs.length ≤ sizeLine := by
      have e1 : kvs.length = raw.length := Paired.length hk
      omega
    refine ⟨.ref s.heap.objs.size, upd H s.heap.objs.size (.dT kvs), I.laid (t' := tk) (fun b o e => k b o (fun q => nomatch q) e) (Nat.le_refl _) ⟨hlen, hm, raw, hk.keeps fun b ys e => ?_, ob, es, ep, h1, h2, h3, h4, h5⟩, rfl, q _ hp⟩
    rw [upd_ne (ne_of_none e hp)]
    exact e
theorem pairItems_of {h : Heap} {ps : List Addr} {raw : List (List L2.Key × Addr × Value)} (hl : raw.length = ps.length) (ha : ∀ (j : Nat) x, raw[j]? = some x → PairAt h (ps.getD j 0) (.ref x.2.1) x.2.2) :
    PairItems h (ps.map Value.ref).toArray (fun j => ps.getD j 0) (raw.map fun x => (Value.ref x.2.1, x.2.2)) := by
  refine ⟨by simp [hl], fun j k v e => ?_⟩
  rw [List.getElem?_map] at e
  cases e2 : raw[j]? with
  | none => rw [e2] at e; cases e
  | some x =>
    rw [e2] at e
    cases e
    refine ⟨?_, ha j x e2⟩
    have hj : j < ps.length := by
      have := (List.getElem?_eq_some_iff.mp e2).1
      omega
    simp [hj, List.getD_eq_getElem?_getD]
def rDictL : List V → Hp → VK → Prop := fun xs H Q => ∃ (a : Addr) (ps : List Addr) (kvs : List (List L2.Key × V)), xs = [.ref a] ∧ H a = some (.lst (ps.map V.ref)) ∧ PairsT H ps kvs ∧ (kvs.map (·.1)).Nodup ∧ ∀ p, H p = none → Q (.ref p) (upd H p (.dT kvs))
theorem cr_dictL (hc : X.calm = true) (hu : X.A.units + 64 < cLine) : CallR X (.type "dict") rDictL := by
  intro pins s σ H xs us Q I r h
  obtain ⟨a, ps, kvs, rfl, hq, hp, hn, q⟩ := h
  rw [Vals.ref1 r]
  obtain ⟨its, rv, ⟨o, n, ho, h1, h2, h3⟩, hz⟩ := I.list (SqL.of hq)
  have ei := refsOf (H := H) rv
  subst ei
  obtain ⟨raw, hl, hk, ha⟩ := pairsT_raw I hp
  rw [List.length_map] at hz
  exact dictT_fin I hc hu hl hk hz hn (PairArg.list a (ps.map Value.ref).toArray (fun j => ps.getD j 0) _) ⟨⟨o, n, ho, h1, h2, h3⟩, pairItems_of hl ha⟩ q
/-- of a tuple that has no dict of its own (made by tuple(list): cr_tupleF) -/
def rDictT : List V → Hp → VK → Prop := fun xs H Q => ∃ (a : Addr) (o : Obj) (ps : List Addr) (kvs : List (List L2.Key × V)), xs = [.ref a] ∧ H a = some (.frz o (.tup (ps.map V.ref))) ∧ o.dict = none ∧ PairsT H ps kvs ∧ (kvs.map (·.1)).Nodup ∧ ∀ p, H p = none → Q (.ref p) (upd H p (.dT kvs))
theorem cr_dictT (hc : X.calm = true) (hu : X.A.units + 64 < cLine) : CallR X (.type "dict") rDictT := by
  intro pins s σ H xs us Q I r h
  obtain ⟨a, o, ps, kvs, rfl, hq, hd, hp, hn, q⟩ := h
  rw [Vals.ref1 r]
  have ho : s.heap.get? a = some o := (I.hok a _ hq).1
  obtain ⟨its, rv, ⟨o', ho', h1, n, h3⟩, hz⟩ := I.tuple (.inl (.inr ⟨o, hq⟩))
  rw [ho] at ho'
  cases ho'
  have ei := refsOf (H := H) rv
  subst ei
  obtain ⟨raw, hl, hk, ha⟩ := pairsT_raw I hp
  rw [List.length_map] at hz
  exact dictT_fin I hc hu hl hk hz hn (PairArg.tuple a (ps.map Value.ref).toArray (fun j => ps.getD j 0) _) ⟨⟨o, n, ho, h1, hd, h3⟩, pairItems_of hl ha⟩ q
/-- tuple(list), with what the dict of pairs asks -/
def rTupleF (K : PySem.W.Frag) : List V → Hp → VK → Prop := fun xs H Q => ∃ p ys, xs = [.ref p] ∧ SqL K H p ys ∧ ∀ l (o : Obj), H l = none → o.dict = none → Q (.ref l) (upd H l (.frz o (.tup ys)))
theorem cr_tupleF : CallR X (.type "tuple") (rTupleF X.K) := by
  intro pins s σ H xs us Q I r h
  obtain ⟨p, ys, rfl, hq, q⟩ := h
  rw [Vals.ref1 r]
  obtain ⟨its, r', pl, hz⟩ := I.list hq
  have hlen := r'.length
  refine call_tuple_list pl.isList (fun h' kp => ?_) (by simp only [List.size_toArray] <;> omega)
  have I1 : Inv X pins σ H { s with heap := h' } := I.kept (t' := s.toks) kp
  have hg : (h'.push { cls := .type "tuple", data := .seq its.toArray }).get? h'.objs.size = some { cls := .type "tuple", data := .seq its.toArray } := Heap.get?_push_size _ rfl
  have I2 : Inv X pins σ (upd H h'.objs.size (.frz { cls := .type "tuple", data := .seq its.toArray } (.tup ys))) { s with heap := h'.push { cls := .type "tuple", data := .seq its.toArray } } :=
    I1.laid (t' := s.toks) (fun b o e => Heap.get?_push_of_some _ e) (Nat.le_refl _) (show ObjOk X.prog X.w _ _ _ (.frz _ (.tup ys)) from ⟨hg, hz, its, r', IsTup.new _ _⟩)
  exact ⟨.ref h'.objs.size, _, I2, rfl, q _ _ (I1.hok.fresh (Nat.le_refl _)) rfl⟩

/-! ### xs[i] op= e, xs a list -/
def rGetL : V → V → Hp → VK → Prop := fun o i H Q => ∃ p xs k v, o = .ref p ∧ i = .int k ∧ H p = some (.lst xs) ∧ 0 ≤ k ∧ xs[k.toNat]? = some v ∧ Q v H
theorem get_list : PGet X rGetL := by
  intro pins s σ H o i ov iv Q I ro ri h
  obtain ⟨p, xs, k, v, rfl, rfl, hp, h0, hv, q⟩ := h
  cases ro
  obtain ⟨t, rfl⟩ := ri
  obtain ⟨its, r, pl, hz⟩ := I.list (SqL.of hp)
  obtain ⟨u, hu, ru⟩ := r.get hv
  have hlt := (List.getElem?_eq_some_iff.mp hv).1
  have hn := line63
  exact wpAny_getItem_list pl.isList h0 (by omega) (by simpa using hu) ⟨v, H, I, ru, q⟩
end
end PB
namespace PB
open PySem PySem.Spec PyProof.Rows L2
/-! ### a def that keeps its promise, told once -/
section
variable {P : Program} {w : World} {K : PySem.W.Frag} {mg : Str → Option Value} {base : Heap}
structure Def (P : Program) (w : World) (K : PySem.W.Frag) (mg : Str → Option Value) (base : Heap) (k : Nat) (x : Str) (ps : List Str) (dvs : List V) (sp : Sp) : Prop where
  ex : ∃ (f : Addr) (fd : FuncData) (ds : List Value), FnOk P w K mg base CX0 k f fd ps sp ∧ mg x = some (.ref f) ∧ PySem.W.keepIn K (.ref f) = true ∧ Binds K fd ps ds ∧ Vals dvs ds
theorem Def.mono {j k : Nat} {x : Str} {ps : List Str} {dvs : List V} {sp : Sp} (D : Def P w K mg base j x ps dvs sp) (h : j ≤ k) : Def P w K mg base k x ps dvs sp := by
  obtain ⟨f, fd, ds, F, r⟩ := D.ex
  exact ⟨f, fd, ds, F.mono h, r⟩
theorem Def.imp {k : Nat} {x : Str} {ps : List Str} {dvs : List V} {sp sp' : Sp} (D : Def P w K mg base k x ps dvs sp) (h : ∀ vs H Q E, sp' vs H Q E → sp vs H Q E) : Def P w K mg base k x ps dvs sp' := by
  obtain ⟨f, fd, ds, F, r⟩ := D.ex
  exact ⟨f, fd, ds, F.imp h, r⟩
/-- the def as it stands behind the top (no defaults) -/
structure At (K : PySem.W.Frag) (mg : Str → Option Value) (x : Str) (st : Stmt) (ps : List Str) : Prop where
  ex : ∃ (f : Addr) (fd : FuncData), Fun K x x st f fd ∧ mg x = some (.ref f) ∧ Binds K fd ps []
theorem At.def {x : Str} {st : Stmt} {N ps : List Str} {k : Nat} {sp : Sp} (A : At K mg x st ps) (S : FnScope N ps (defScope st)) (len : ∀ vs H Q E, sp vs H Q E → vs.length = ps.length)
    (hbody : ∀ (f : Addr) (cdv : Value) (A : Around) (outer : List Env) (s : Shared) (H : Hp) (vs : List V) (Q : VK) (E : XK), Room k (A.deeper (envOfC x (defScope st) s.heap.objs.size f cdv)) → sp vs H Q E →
      ∃ t, PSs (cxOf CX0 P w K mg base N x (defScope st) f cdv A outer s H E).nox (defBody st) t ∧ t { nx := fun _ H' => Q .non H', rt := Q } (start N vs) H) : Def P w K mg base (k + 1) x ps [] sp := by
  obtain ⟨f, fd, F, hm, hb⟩ := A.ex
  exact ⟨f, fd, [], F.ok S len fun cdv A outer s H vs Q E hr h => hbody f cdv A outer s H vs Q E hr h, hm, F.kp, hb, .nil⟩
/-- .. with the one default 1000 -/
structure AtD (K : PySem.W.Frag) (mg : Str → Option Value) (x : Str) (st : Stmt) (ps : List Str) (dvs : List V) : Prop where
  ex : ∃ (f : Addr) (fd : FuncData) (ds : List Value) (dvs0 : List V), FunD K x x (defArgs st) (defBody st) (defScope st) dvs0 [] f fd ∧ mg x = some (.ref f) ∧ Binds K fd ps ds ∧ Vals dvs ds
theorem AtD.def {x : Str} {st : Stmt} {N ps : List Str} {dvs : List V} {k : Nat} {sp : Sp} (A : AtD K mg x st ps dvs) (S : FnScope N ps (defScope st)) (len : ∀ vs H Q E, sp vs H Q E → vs.length = ps.length)
    (hbody : ∀ (f : Addr) (cdv : Value) (A : Around) (outer : List Env) (s : Shared) (H : Hp) (vs : List V) (Q : VK) (E : XK), Room k (A.deeper (envOfC x (defScope st) s.heap.objs.size f cdv)) → sp vs H Q E →
      ∃ t, PSs (cxOf CX0 P w K mg base N x (defScope st) f cdv A outer s H E).nox (defBody st) t ∧ t { nx := fun _ H' => Q .non H', rt := Q } (start N vs) H) : Def P w K mg base (k + 1) x ps dvs sp := by
  obtain ⟨f, fd, ds, dvs0, F, hm, hb, hv⟩ := A.ex
  refine ⟨f, fd, ds, F.ok (CX := CX0) S len fun cdv A outer s H vs Q E hr h => ?_, hm, F.kp, hb, hv⟩
  obtain ⟨t, h1, h2⟩ := hbody f cdv A outer s H vs Q E hr h
  exact ⟨t, h1.nox, h2⟩
end
section
variable {X : Cx}
theorem pe_def {j k : Nat} {x : Str} {ps : List Str} {dvs : List V} {sp : Sp} {p pos : Pos} {e : Expr} {es : List Expr} {t : TA} (D : Def X.prog X.w X.K X.mg X.base j x ps dvs sp) (hr : Room k X.A) (hg : Gl X x) (ha : PA X (e :: es) t)
    (hjk : j ≤ k := by first | decide | omega) (hdb : (x == ("__debug__" : Str)) = false := by decide) (he : starEach (e :: es) X.env = (false, eval e X.env) :: starEach es X.env := by rfl) (hpl : (backTo pos (starEach es X.env)).any (·.1) = false := by rfl) :
    PE X (.Call (.Name x p) (e :: es) [] pos) (tCall sp dvs E0 t) := by
  obtain ⟨f, fd, ds, F, hm, hk, hb, hd⟩ := D.ex
  exact pe_call F (hr.mono hjk) hg hm hk hb hd pass0 ha hdb he hpl
/-! ### isinstance -/
def rIs3 : List V → Hp → VK → Prop := fun xs H Q => (∃ i, xs = [.int i, .ty "int"] ∧ Q (.bl true) H) ∨ (∃ i, xs = [.int i, .ty "bool"] ∧ Q (.bl false) H) ∨ ∃ a ys, xs = [.ref a, .ty "tuple"] ∧ Rd H a (.tup ys) ∧ Q (.bl true) H
theorem call_is3 : CallR X (.builtin "isinstance") rIs3 := by
  intro pins s σ H xs us Q I r h
  refine call_isi pins s σ H xs us Q I r ?_
  rcases h with ⟨i, rfl, q⟩ | ⟨i, rfl, q⟩ | ⟨a, ys, rfl, hr, q⟩
  · exact ⟨_, _, _, _, _, rfl, .ty _, .base (.int i), kit_ty (by decide +kernel), q⟩
  · exact ⟨_, _, _, _, _, rfl, .ty _, .base (.int i), kit_ty (by decide +kernel), q⟩
  · rcases hr with hr | ⟨o, hr⟩
    · exact ⟨_, _, _, _, _, rfl, .ty _, .base (.tup hr), kit_ty (by decide +kernel), q⟩
    · exact ⟨_, _, _, _, _, rfl, .ty _, .fTuple hr, kit_ty (by decide +kernel), q⟩
/-! ### len of a dict with tuple keys, locked or not -/
/-! ### x not in ((..), (..)): some truth -/
/-! ### sorted(d), d a dict whose keys are tuples of ints -/
abbrev ck (ns : List Int) : List L2.Key := ns.map Sum.inl
theorem ck_kV (ns : List Int) : (ck ns).map kV = ns.map V.int := by
  rw [List.map_map]
  rfl
theorem ck_inj {a b : List Int} (h : ck a = ck b) : a = b := by
  have : (ck a).map kV = (ck b).map kV := by rw [h]
  rw [ck_kV, ck_kV] at this
  exact (List.map_inj_right (fun x y e => by injection e)).mp this
def rSortD (d : Nat) (B : Int) : List V → Hp → VK → Prop := fun vs H Q => ∃ (a : Addr) (kvs : List (List L2.Key × V)) (ds : List (List Int)), vs = [V.ref a] ∧ Rd H a (.dT kvs) ∧ kvs.map (·.1) = ds.map ck ∧ ds.length < 64 ∧ (∀ n ∈ ds, n.length = d ∧ TS.Bd B n) ∧
  ∀ (ts : List (Addr × List Int)) (p : Addr), H p = none → (∀ t ∈ ts, H t.1 = some (.tup (t.2.map V.int))) → (ts.map (·.2)).Perm ds → ts.Pairwise (fun x y => TS.code B x.2 ≤ TS.code B y.2) → Q (.ref p) (upd H p (.lst (ts.map fun t => V.ref t.1)))
theorem keys_ts {H : Hp} : ∀ {kvs : List (List L2.Key × V)} {ds : List (List Int)} {bs : List Addr}, kvs.map (·.1) = ds.map ck → IsKeys H kvs bs → ∃ ts : List (Addr × List Int), bs = ts.map (·.1) ∧ ts.map (·.2) = ds ∧ ∀ t ∈ ts, H t.1 = some (.tup (t.2.map V.int))
  | [], [], _, _, .nil => ⟨[], rfl, rfl, fun t ht => by cases ht⟩
  | [], _ :: _, _, e, _ => by cases e
  | _ :: _, [], _, e, _ => by cases e
  | kv :: kvs, n :: ds, _, e, .cons h t => by
    rw [List.map_cons, List.map_cons] at e
    injection e with e1 e2
    obtain ⟨ts, h1, h2, h3⟩ := keys_ts e2 t
    rename_i b bs
    refine ⟨(b, n) :: ts, by rw [h1]; rfl, by rw [← h2]; rfl, fun t ht => ?_⟩
    rcases List.mem_cons.mp ht with rfl | ht
    · rw [e1, ck_kV] at h
      exact h
    · exact h3 t ht
/-- a permutation of a map is the map of a permutation -/
theorem perm_rows {l2 l1 : List Value} (p : l2.Perm l1) : ∀ T : List (Addr × List Int), l2 = T.map (fun q => Value.ref q.1) → ∃ L1 : List (Addr × List Int), l1 = L1.map (fun q => Value.ref q.1) ∧ L1.Perm T := by
  induction p with
  | nil => intro T e; cases T with
    | nil => exact ⟨[], rfl, .nil⟩
    | cons _ _ => cases e
  | cons v p ih =>
    intro T e
    cases T with
    | nil => cases e
    | cons t T =>
      rw [List.map_cons] at e
      injection e with e1 e2
      obtain ⟨L1, f1, f2⟩ := ih T e2
      exact ⟨t :: L1, by rw [List.map_cons, e1, f1], f2.cons t⟩
  | swap v u l =>
    intro T e
    cases T with
    | nil => cases e
    | cons t T =>
      cases T with
      | nil => rw [List.map_cons] at e; injection e with _ e; cases e
      | cons t' T =>
        rw [List.map_cons, List.map_cons] at e
        injection e with e1 e2
        injection e2 with e2 e3
        exact ⟨t' :: t :: T, by rw [List.map_cons, List.map_cons, e1, e2, e3], List.Perm.swap _ _ _⟩
  | trans p1 p2 ih1 ih2 =>
    intro T e
    obtain ⟨L1, f1, f2⟩ := ih1 T e
    obtain ⟨L2, g1, g2⟩ := ih2 L1 f1
    exact ⟨L2, g1, g2.trans f2⟩
theorem cr_sortD {d : Nat} {B : Int} (hc : X.calm = true) (hd : 1 ≤ d) : CallR X (.builtin "sorted") (rSortD d B) := by
  intro pins s σ H vs us Q I r h
  obtain ⟨a, kvs, ds, rfl, hr, hks, h64, hB, q⟩ := h
  rw [Vals.ref1 r]
  obtain ⟨z, hs, ks, pr, o, es, ep, ho, hx, hdt, he, hn⟩ := (show ObjOk X.prog X.w H s.heap a (.dT kvs) from hr.ok I.hok)
  have l1 : es.size = ks.length := size_of_entries he
  have l2 : kvs.length = ks.length := Paired.length pr
  have l3 : kvs.length = ds.length := by
    have := congrArg List.length hks
    rwa [List.length_map, List.length_map] at this
  obtain ⟨ts, t1, t2, t3⟩ := keys_ts hks (isKeys_of pr)
  have lts : ts.length = ds.length := by rw [← t2, List.length_map]
  refine Calls.call_function_entry kind_sorted plain_sorted entry_sorted (args_sorted1 _) ?_
  unfold Builtin.«sorted»
  refine wpAny_bind (m := checkCount "sorted" 1 1 _) (wpAny_pure ?_)
  refine wpAny_bind (PySem.W.kdu_collect (A := X.A.in1) (kdl_raw hs hx hdt) (I.ok.hd hc) ho (by rw [sizeLine_eq]; omega) fun h' tk acc hk it => ?_)
  have ea : acc.toList = ts.map fun t => Value.ref t.1 := by
    have e1 : (ts.map fun t => Value.ref t.1) = ks.map fun x => Value.ref x.2.1 := by
      have : (ts.map (·.1)).map Value.ref = (ks.map fun x => x.2.1).map Value.ref := by rw [← t1]
      rw [List.map_map, List.map_map] at this
      exact this
    rw [e1]
    have hl : acc.toList.length = ks.length := by rw [Array.length_toList, it.1]; exact l1
    apply List.ext_getElem?
    intro j
    rw [List.getElem?_map]
    cases hj : acc.toList[j]? with
    | none =>
      have h1 := List.getElem?_eq_none_iff.mp hj
      rw [List.getElem?_eq_none (by omega)]
      all_goals rfl
    | some v =>
      obtain ⟨en, hen, hv⟩ := it.2 j v (by rw [← Array.getElem?_toList]; exact hj)
      have qe := entry_at he j
      rw [hen] at qe
      cases hb : ks[j]? with
      | none =>
        rw [hb] at qe
        exact nomatch (show some en = none from qe)
      | some b =>
        rw [hb] at qe
        have e2 : en = entryOfKey (tupleKind (mixKind X.prog X.w)) b := Option.some.inj qe
        rw [hv, e2]
        all_goals rfl
  rw [ea]
  have I1 : Inv X pins σ H { s with heap := h', toks := tk } := I.kept hk
  have hvl : (ts.map fun t => Value.ref t.1).length < 64 := by rw [List.length_map, lts]; exact h64
  refine wpAny_bind (wpAny_newList ?_ (by rw [sizeLine_eq]; omega))
  have hoL : (h'.push (seqObj "list" (ts.map fun t => Value.ref t.1).toArray 0)).get? h'.objs.size = some (seqObj "list" (ts.map fun t => Value.ref t.1).toArray 0) := Heap.get?_push_size _ rfl
  have tk' : ∀ t ∈ ts, TS.TupInts (h'.push (seqObj "list" (ts.map fun t => Value.ref t.1).toArray 0)) (.ref t.1) t.2 := fun t ht => by
    obtain ⟨t0, its, e0, hT, hi⟩ := tupI_raw I1 (SqT.of (t3 t ht))
    cases e0
    obtain ⟨o, ho, r⟩ := hT
    exact ⟨t.1, its, rfl, ⟨o, Heap.get?_push_of_some _ ho, r⟩, hi⟩
  have hBd : ∀ t ∈ ts, t.2.length = d ∧ TS.Bd B t.2 := fun t ht => hB t.2 (by rw [← t2]; exact List.mem_map.mpr ⟨t, ht, rfl⟩)
  have x : TS.TupsOk (h'.push (seqObj "list" (ts.map fun t => Value.ref t.1).toArray 0)) d B (ts.map fun t => Value.ref t.1) := fun v hv => by
    obtain ⟨t, ht, e⟩ := List.mem_map.mp hv
    rw [← e]
    exact ⟨t.2, tk' t ht, (hBd t ht).1, (hBd t ht).2⟩
  refine wpAny_bind (wpAny_holding (TS.call_sort_tups (s := { s with heap := h'.push (seqObj "list" (ts.map fun t => Value.ref t.1).toArray 0), toks := tk }) hoL hvl hd x fun out a1 a2 => ?_))
  obtain ⟨c, hcc⟩ := sortedHeap_at (vs := ts.map fun t => Value.ref t.1) (out := out) hoL
  obtain ⟨L', e', pL⟩ := perm_rows a1.symm ts rfl
  have hs' : ∀ q ∈ L', q ∈ ts := fun q hq => pL.mem_iff.mp hq
  have pw : L'.Pairwise (fun q r => TS.code B q.2 ≤ TS.code B r.2) := by
    rw [e'] at a2
    refine List.Pairwise.imp_of_mem (fun {q r} hq hr hle => ?_) (List.pairwise_map.mp a2)
    have f1 := (tk' q (hs' q hq)).ints
    have f2 := (tk' r (hs' r hr)).ints
    rw [← f1, ← f2]
    exact hle
  have hn1 : H h'.objs.size = none := I1.hok.fresh (Nat.le_refl _)
  have hlen : (L'.map fun q => V.ref q.1).length ≤ sizeLine := by rw [List.length_map, pL.length_eq, sizeLine_eq]; omega
  have kp : ∀ b u, h'.get? b = some u → (sortedHeap (h'.push (seqObj "list" (ts.map fun t => Value.ref t.1).toArray 0)) h'.objs.size (ts.map fun t => Value.ref t.1) out).get? b = some u := fun b u e => by
    have hlt := Heap.lt_size e
    rw [sortedHeap_old (Nat.ne_of_lt hlt) (by rw [size_push']; exact Nat.lt_succ_of_lt hlt)]
    exact Heap.get?_push_of_some _ e
  have new : ObjOk X.prog X.w (upd H h'.objs.size (.lst (L'.map fun q => V.ref q.1))) (sortedHeap (h'.push (seqObj "list" (ts.map fun t => Value.ref t.1).toArray 0)) h'.objs.size (ts.map fun t => Value.ref t.1) out) h'.objs.size (.lst (L'.map fun q => V.ref q.1)) :=
    ⟨hlen, out.toList, c, by rw [e']; exact vals_of_refs L', by simpa using hcc⟩
  have I2 := I1.laid (t' := tk) kp (Nat.le_refl _) new
  exact wpAny_pure ⟨_, rfl, .ref h'.objs.size, _, I2, rfl, q L' _ hn1 (fun t ht => t3 t (hs' t ht)) ((pL.map (·.2)).trans (by rw [t2])) pw⟩
end
end PB
namespace PB
open PySem PySem.Spec PyProof.Rows L2
/-! ### tuples of ints as data -/
theorem eqvAll_ints : ∀ ns ms : List Int, PyData.eqvAll (ns.map PyData.int) (ms.map PyData.int) = decide (ns = ms)
  | [], [] => by simp [PyData.eqvAll]
  | [], _ :: _ => by simp [PyData.eqvAll]
  | _ :: _, [] => by simp [PyData.eqvAll]
  | n :: ns, m :: ms => by
    simp only [List.map_cons, PyData.eqvAll, PyData.eqv, eqvAll_ints ns ms]
    by_cases h : n = m
    · subst h; simp
    · simp [h]
theorem eqv_ints (ns ms : List Int) : PyData.eqv (.tuple (ns.map PyData.int)) (.tuple (ms.map PyData.int)) = decide (ns = ms) := by
  simp only [PyData.eqv]
  exact eqvAll_ints ns ms
theorem canLay_ints : ∀ ns : List Int, PyData.canLayAll0 (ns.map PyData.int) = true
  | [] => by simp [PyData.canLayAll0]
  | n :: ns => by simp [PyData.canLayAll0, PyData.canLay0, canLay_ints ns]
theorem depth_ints : ∀ ns : List Int, PyData.depthAll (ns.map PyData.int) = 0
  | [] => by simp [PyData.depthAll]
  | n :: ns => by simp [PyData.depthAll, PyData.depth, depth_ints ns]
theorem shaped_ints (ns : List Int) : SeqAt.shaped (.tuple (ns.map PyData.int)) = true := by
  show (PyData.canLay0 (.tuple (ns.map PyData.int)) && decide (PyData.depth (.tuple (ns.map PyData.int)) ≤ 64)) = true
  simp [PyData.canLay0, PyData.depth, canLay_ints, depth_ints]
theorem shaped_rows (rs : List (List Int)) : PyData.canLayAll0 (rs.map fun ns => PyData.tuple (ns.map PyData.int)) = true ∧ PyData.depthAll (rs.map fun ns => PyData.tuple (ns.map PyData.int)) ≤ 1 := by
  induction rs with
  | nil => simp [PyData.canLayAll0, PyData.depthAll]
  | cons r rs ih =>
    simp only [List.map_cons, PyData.canLayAll0, PyData.canLay0, PyData.depthAll, PyData.depth, canLay_ints, depth_ints, ih.1, Bool.and_self, true_and]
    omega
theorem dpAll_ints {K : PySem.W.Frag} {H : Hp} : ∀ ns : List Int, DpAll K H (ns.map V.int) (ns.map PyData.int)
  | [] => .nil
  | n :: ns => .cons (.int n) (dpAll_ints ns)
theorem dp_ints {K : PySem.W.Frag} {H : Hp} {a : Addr} {ns : List Int} (h : H a = some (.tup (ns.map V.int))) : Dp K H (.ref a) (.tuple (ns.map PyData.int)) := .tup (SqT.of h) (dpAll_ints ns)
/-- the rows' tuples stand at these addresses -/
abbrev TupsAt (H : Hp) (ts : List Addr) (rs : List (List Int)) : Prop := Paired (fun t ns => H t = some (.tup (ns.map V.int))) ts rs
theorem dpAll_rows {K : PySem.W.Frag} {H : Hp} : ∀ {ts : List Addr} {rs : List (List Int)}, TupsAt H ts rs → DpAll K H (ts.map V.ref) (rs.map fun ns => PyData.tuple (ns.map PyData.int))
  | [], _, .nil => .nil
  | _ :: _, _, .cons h t => .cons (dp_ints h) (dpAll_rows t)
section
variable {X : Cx} {k : Nat}
theorem Room.u65 {A : Around} (hr : Room k A) : A.units + 65 < cLine := by have := hr.un; omega
/-- xs != [], xs a list of tuples of ints -/
def rNeNil : V → V → Hp → VK → Prop := fun x y H Q => ∃ (a b : Addr) (ts : List Addr) (rs : List (List Int)), x = .ref a ∧ y = .ref b ∧ H a = some (.lst (ts.map V.ref)) ∧ H b = some (.lst []) ∧ TupsAt H ts rs ∧ Q (.bl (!ts.isEmpty)) H
theorem op_neNil (hr : Room k X.A) : OpR X (compareOp .NotEq) rNeNil := by
  intro pins s σ H x y v u Q I rx ry h
  obtain ⟨a, b, ts, rs, rfl, rfl, ha, hb, hp, q⟩ := h
  refine op_neD (X := X) hr.units pins s σ H _ _ v u Q I rx ry ⟨.list (rs.map fun ns => PyData.tuple (ns.map PyData.int)), .list [], .lst (SqL.of ha) (dpAll_rows hp), .lst (SqL.of hb) .nil, ?_, by decide, ?_⟩
  · have := shaped_rows rs
    have h2 := this.2
    have h3 : PyData.depth (.list (rs.map fun ns => PyData.tuple (ns.map PyData.int))) ≤ 64 := by
      simp only [PyData.depth]
      omega
    show (PyData.canLay0 (.list (rs.map fun ns => PyData.tuple (ns.map PyData.int))) && decide (PyData.depth (.list (rs.map fun ns => PyData.tuple (ns.map PyData.int))) ≤ 64)) = true
    rw [Bool.and_eq_true]
    exact ⟨by simp only [PyData.canLay0]; exact this.1, decide_eq_true h3⟩
  · have e : PyData.eqv (.list (rs.map fun ns => PyData.tuple (ns.map PyData.int))) (.list []) = ts.isEmpty := by
      cases hp with
      | nil => simp [PyData.eqv, PyData.eqvAll]
      | cons _ _ => simp [PyData.eqv, PyData.eqvAll]
    rw [e]
    exact q
/-- t != u, tuples of ints; or both None -/
def rNeTup : V → V → Hp → VK → Prop := fun x y H Q => (x = .non ∧ y = .non ∧ Q (.bl false) H) ∨ ∃ (a b : Addr) (ns ms : List Int), x = .ref a ∧ y = .ref b ∧ H a = some (.tup (ns.map V.int)) ∧ H b = some (.tup (ms.map V.int)) ∧ Q (.bl (!decide (ns = ms))) H
theorem op_neTup (hr : Room k X.A) : OpR X (compareOp .NotEq) rNeTup := by
  intro pins s σ H x y v u Q I rx ry h
  rcases h with ⟨rfl, rfl, q⟩ | ⟨a, b, ns, ms, rfl, rfl, ha, hb, q⟩
  · exact op_ne (X := X) pins s σ H _ _ v u Q I rx ry ⟨rfl, q⟩
  · refine op_neD (X := X) hr.units pins s σ H _ _ v u Q I rx ry ⟨_, _, dp_ints ha, dp_ints hb, shaped_ints _, shaped_ints _, ?_⟩
    rw [eqv_ints]
    exact q
/-- t not in (u, v), tuples of ints: some truth -/
def rNotIn2 : V → V → Hp → VK → Prop := fun x y H Q => ∃ (a b : Addr) (ts : List Addr) (ns : List Int) (rs : List (List Int)), x = .ref a ∧ y = .ref b ∧ H a = some (.tup (ns.map V.int)) ∧ H b = some (.tup (ts.map V.ref)) ∧ TupsAt H ts rs ∧ ∀ c, Q (.bl c) H
theorem op_notIn2 (hr : Room k X.A) : OpR X (compareOp .NotIn) rNotIn2 := by
  intro pins s σ H x y v u Q I rx ry h
  obtain ⟨a, b, ts, ns, rs, rfl, rfl, ha, hb, hp, q⟩ := h
  obtain ⟨as, r1⟩ := Dp.reads I _ _ v (dp_ints (K := X.K) ha) rx
  obtain ⟨bs, r2⟩ := Dp.reads I (.tuple (rs.map fun ns => PyData.tuple (ns.map PyData.int))) _ u (.tup (SqT.of hb) (dpAll_rows hp)) ry
  exact SeqAt.notIn_tuple_reads r2 r1 (shaped_rows rs).1 (SeqAt.canLay_of_shaped (shaped_ints ns)) (room_in_shaped (shaped_ints ns) (Room.u65 hr)) ⟨.bl _, H, I, rfl, q _⟩
end
/-! ### the built-ins' names are free -/
structure BN (mg : Str → Option Value) : Prop where
  len : mg "len" = none
  sum : mg "sum" = none
  range : mg "range" = none
  tuple : mg "tuple" = none
  list : mg "list" = none
  dict : mg "dict" = none
  isinstance : mg "isinstance" = none
  int : mg "int" = none
  bool : mg "bool" = none
  enumerate : mg "enumerate" = none
  sorted : mg "sorted" = none
  repr : mg "repr" = none
  max : mg "max" = none
  min : mg "min" = none
  abs : mg "abs" = none
  all : mg "all" = none
  any : mg "any" = none
end PB
namespace PB
open PySem PySem.Spec PyProof.Rows L2
/-! ### the layer's rules over what is tracked or locked alone: their readings name no written part -/
section
variable {X : Cx}
theorem opW {f : Value → Value → Sem Value} {r r' : R2} (h : OpR X f r) (wk : ∀ x y H Q, r' x y H Q → r x y H Q) : OpR X f r' := by
  intro pins s σ H x y v u Q I rx ry q
  exact h pins s σ H x y v u Q I rx ry (wk _ _ _ _ q)
theorem callW {f : Value} {r r' : List V → Hp → VK → Prop} (h : CallR X f r) (wk : ∀ x H Q, r' x H Q → r x H Q) : CallR X f r' := by
  intro pins s σ H xs us Q I rx q
  exact h pins s σ H xs us Q I rx (wk _ _ _ q)
theorem ixW {r r' : R2} (h : IxR X r) (wk : ∀ x y H Q, r' x y H Q → r x y H Q) : IxR X r' := by
  intro value slice pins s σ H x y v u Q I rx ry q
  exact h value slice pins s σ H x y v u Q I rx ry (wk _ _ _ _ q)
theorem slW {r r' : V → Option Int → Option Int → Hp → VK → Prop} (h : SlR X r) (wk : ∀ x lo hi H Q, r' x lo hi H Q → r x lo hi H Q) : SlR X r' := by
  intro pins s σ H x v vl vu lo hi sl Q I rx hs pl pu q
  exact h pins s σ H x v vl vu lo hi sl Q I rx hs pl pu (wk _ _ _ _ _ q)
def rIxL0 : R2 := fun x y H Q => ∃ p xs i v, x = .ref p ∧ y = .int i ∧ Rd H p (.lst xs) ∧ atI xs i = some v ∧ Q v H
def rIxT0 : R2 := fun x y H Q => ∃ p xs i v, x = .ref p ∧ y = .int i ∧ Rd H p (.tup xs) ∧ atI xs i = some v ∧ Q v H
theorem ix_list0 : IxR X rIxL0 := ixW ix_list fun _ _ _ _ ⟨p, xs, i, z, e1, e2, h, r⟩ => ⟨p, xs, i, z, e1, e2, .inl h, r⟩
theorem ix_tup0 : IxR X rIxT0 := ixW ix_tup fun _ _ _ _ ⟨p, xs, i, z, e1, e2, h, r⟩ => ⟨p, xs, i, z, e1, e2, .inl h, r⟩
def rSlT0 : V → Option Int → Option Int → Hp → VK → Prop := fun x lo hi H Q => ∃ a xs, x = .ref a ∧ Rd H a (.tup xs) ∧ (HT.sIx xs.length 0 lo = 0 ∧ HT.sIx xs.length xs.length hi = xs.length → Q (.ref a) H) ∧
  (¬ (HT.sIx xs.length 0 lo = 0 ∧ HT.sIx xs.length xs.length hi = xs.length) → ∀ p, H p = none → Q (.ref p) (upd H p (.tup (cutV xs lo hi))))
theorem sl_tup0 : SlR X rSlT0 := slW sl_tupA fun _ _ _ _ _ ⟨a, xs, e, h, r⟩ => ⟨a, xs, e, .inl h, r⟩
def rLen0 : List V → Hp → VK → Prop := fun xs H Q => ∃ p ys, xs = [.ref p] ∧ (Rd H p (.lst ys) ∨ Rd H p (.tup ys)) ∧ Q (.int ys.length) H
theorem call_len0 : CallR X (.builtin "len") rLen0 := callW call_len_seq fun _ _ _ ⟨p, ys, e, h, q⟩ => ⟨p, ys, e, h.elim (fun z => .inl (.inl z)) fun z => .inr (.inl z), q⟩
def rSum0 : List V → Hp → VK → Prop := fun vs H Q => ∃ (a : Addr) (ns : List Int), vs = [V.ref a] ∧ Rd H a (.lst (ns.map V.int)) ∧ Q (.int ns.sum) H
theorem cr_sum0 (hc : X.calm = true) : CallR X (.builtin "sum") rSum0 := callW (cr_sum hc) fun _ _ _ ⟨a, ns, e, h, q⟩ => ⟨a, ns, e, .inl h, q⟩
def rAny0 : List V → Hp → VK → Prop := fun vs H Q => ∃ (a : Addr) (bs : List Bool), vs = [V.ref a] ∧ Rd H a (.lst (bs.map V.bl)) ∧ Q (.bl (bs.any id)) H
theorem cr_any0 (hc : X.calm = true) : CallR X (.builtin "any") rAny0 := callW (cr_any hc) fun _ _ _ ⟨a, ns, e, h, q⟩ => ⟨a, ns, e, .inl h, q⟩
def rAll0 : List V → Hp → VK → Prop := fun vs H Q => ∃ (a : Addr) (bs : List Bool), vs = [V.ref a] ∧ Rd H a (.lst (bs.map V.bl)) ∧ Q (.bl (bs.all id)) H
theorem cr_all0 (hc : X.calm = true) : CallR X (.builtin "all") rAll0 := callW (cr_all hc) fun _ _ _ ⟨a, ns, e, h, q⟩ => ⟨a, ns, e, .inl h, q⟩
/-- in, over a list or a tuple of flat things -/
def rIn0 (neg : Bool) : R2 := fun x y H Q => ∃ p xs, y = .ref p ∧ (Rd H p (.lst xs) ∨ Rd H p (.tup xs)) ∧ flatV x = true ∧ xs.all flatV = true ∧ Q (.bl (if neg then !inV x xs else inV x xs)) H
theorem op_in0 : OpR X (compareOp .In) (rIn0 false) := opW op_in_seq fun _ _ _ _ ⟨p, xs, e, h, r⟩ => ⟨p, xs, e, h.elim (fun z => .inl (.inl z)) fun z => .inr (.inl z), r⟩
theorem op_notIn0 : OpR X (compareOp .NotIn) (rIn0 true) := opW op_notIn_seq fun _ _ _ _ ⟨p, xs, e, h, r⟩ => ⟨p, xs, e, h.elim (fun z => .inl (.inl z)) fun z => .inr (.inl z), r⟩
def rLtT0 : R2 := fun x y H Q => ∃ a b ns ms, x = .ref a ∧ y = .ref b ∧ H a = some (.tup (ns.map V.int)) ∧ H b = some (.tup (ms.map V.int)) ∧ Q (.bl (HT.lexLt ns ms)) H
theorem op_ltT0 (hu : X.A.units < cLine) : OpR X (compareOp .Lt) rLtT0 := opW (op_ltT hu) fun _ _ _ _ ⟨a, b, ns, ms, e1, e2, h1, h2, q⟩ => ⟨a, b, ns, ms, e1, e2, SqT.of h1, SqT.of h2, q⟩
def rCat0 : R2 := fun x y H Q => ∃ a b xs ys, x = .ref a ∧ y = .ref b ∧ Rd H a (.tup xs) ∧ Rd H b (.tup ys) ∧ xs.length + ys.length ≤ sizeLine ∧
  (xs = [] → Q (.ref b) H) ∧ (xs ≠ [] → ys = [] → Q (.ref a) H) ∧ (xs ≠ [] → ys ≠ [] → ∀ p, H p = none → Q (.ref p) (upd H p (.tup (xs ++ ys))))
theorem op_cat0 : OpR X (binaryOp .Add) rCat0 := opW op_catA fun _ _ _ _ ⟨a, b, xs, ys, e1, e2, h1, h2, r⟩ => ⟨a, b, xs, ys, e1, e2, .inl h1, .inl h2, r⟩
def rRepT0 : R2 := fun x y H Q => ∃ l k xs, x = .ref l ∧ y = .int k ∧ Rd H l (.tup xs) ∧ xs ≠ [] ∧ 2 ≤ k ∧ k ≤ 1000 ∧ xs.length ≤ 1000 ∧ ∀ p, H p = none → Q (.ref p) (upd H p (.tup (List.replicate k.toNat xs).flatten))
theorem op_repT0 : OpR X (binaryOp .Mult) rRepT0 := opW op_repT fun _ _ _ _ ⟨l, k, xs, e1, e2, h1, r⟩ => ⟨l, k, xs, e1, e2, .inl h1, r⟩
/-- tuple(list), list(list), list(tuple): new ones -/
def rTuple0 : List V → Hp → VK → Prop := fun xs H Q => ∃ p ys, xs = [.ref p] ∧ Rd H p (.lst ys) ∧ ∀ l, H l = none → Q (.ref l) (upd H l (.tup ys))
theorem call_tuple0 : CallR X (.type "tuple") rTuple0 := callW call_tuple_of fun _ _ _ ⟨p, ys, e, h, q⟩ => ⟨p, ys, e, .inl ⟨.inl h, q⟩⟩
def rList0 : List V → Hp → VK → Prop := fun xs H Q => ∃ p ys, xs = [.ref p] ∧ (Rd H p (.lst ys) ∨ Rd H p (.tup ys)) ∧ ∀ l, H l = none → Q (.ref l) (upd H l (.lst ys))
theorem call_list0 : CallR X (.type "list") rList0 := callW call_list_of fun _ _ _ ⟨p, ys, e, h, q⟩ => ⟨p, ys, e, h.elim (fun z => .inl (.inl z)) fun z => .inr (.inl z), q⟩
/-- (a, b, ..) = a tuple -/
def gTup0 (n : Nat) (t : TGs) : TG := fun v σ H Q => ∃ a xs, v = .ref a ∧ Rd H a (.tup xs) ∧ xs.length = n ∧ t xs σ H Q
theorem pg_tup0 {es : List Expr} {k : Nat} {t : TGs} {n : Nat} {pos : Pos} (hc : X.calm = true) (h : PGs X es t)
    (hn : (assignEach es X.env).length = n := by rfl) (hst : (assignEach es X.env).findIdx? (·.1) = none := by rfl) : PG X (.Tuple es k pos) (gTup0 n t) :=
  ⟨fun pins s σ H v u Q I r ⟨a, xs, e, h1, h2⟩ => (pg_tup (pos := pos) (k := k) hc h hn hst).run pins s σ H v u Q I r ⟨a, xs, e, .inl h1, h2⟩⟩
end
end PB
namespace PB
/-! ### rules, crowds, what comes: plain -/
abbrev Mt := Nat × Nat × Nat × Nat
structure Rule where
  n : Nat
  starts : List Nat
  meets : List Mt
  says : List Bool
structure Rule.Ok (R : Rule) : Prop where
  n1 : 1 ≤ R.n
  n4 : R.n ≤ 4
  st : ∀ s ∈ R.starts, s < R.n
  s1 : 1 ≤ R.starts.length
  s2 : R.starts.length ≤ 2
  mt : ∀ m ∈ R.meets, m.1 < R.n ∧ m.2.1 < R.n ∧ m.2.2.1 < R.n ∧ m.2.2.2 < R.n
  ml : R.meets.length ≤ 100
  sl : R.says.length = R.n
def Rule.mt (R : Rule) (k : Nat) : Mt := R.meets.getD k (0, 0, 0, 0)
def bump (c : List Int) (i : Nat) (z : Int) : List Int := c.set i (c.getD i 0 + z)
def behind (c : List Int) (m : Mt) : List Int := bump (bump (bump (bump c m.1 (-1)) m.2.1 (-1)) m.2.2.1 1) m.2.2.2 1
def mayB (c : List Int) (m : Mt) : Bool := if m.1 = m.2.1 then decide (2 ≤ c.getD m.1 0) else decide (1 ≤ c.getD m.1 0) && decide (1 ≤ c.getD m.2.1 0)
def canL (R : Rule) (c : List Int) : List Nat := (List.range R.meets.length).filter fun k => mayB c (R.mt k)
def succs (R : Rule) (c : List Int) : List (Nat × List Int) := (canL R c).map fun k => (k, behind c (R.mt k))
def nexts (R : Rule) (c : List Int) : List (List Int) := (canL R c).map fun k => behind c (R.mt k)
theorem nexts_eq (R : Rule) (c : List Int) : nexts R c = (succs R c).map (·.2) := by
  unfold nexts succs
  rw [List.map_map]
  rfl
theorem mem_nexts {R : Rule} {c d : List Int} : d ∈ nexts R c ↔ ∃ k, k ∈ canL R c ∧ d = behind c (R.mt k) := by
  unfold nexts
  rw [List.mem_map]
  exact ⟨fun ⟨k, h, e⟩ => ⟨k, h, e.symm⟩, fun ⟨k, h, e⟩ => ⟨k, h, e.symm⟩⟩
theorem mem_canL {R : Rule} {c : List Int} {k : Nat} : k ∈ canL R c ↔ k < R.meets.length ∧ mayB c (R.mt k) = true := by
  unfold canL
  rw [List.mem_filter, List.mem_range]
theorem mt_mem {R : Rule} {k : Nat} (h : k < R.meets.length) : R.mt k ∈ R.meets := by
  unfold Rule.mt
  rw [List.getD_eq_getElem?_getD, List.getElem?_eq_getElem h]
  exact List.getElem_mem h
inductive Comes (R : Rule) (c : List Int) : List Int → Prop
  | refl : Comes R c c
  | step {d e : List Int} : Comes R c d → e ∈ nexts R d → Comes R c e
theorem Comes.trans {R : Rule} {c d e : List Int} (a : Comes R c d) (b : Comes R d e) : Comes R c e := by
  induction b with
  | refl => exact a
  | step _ h ih => exact .step ih h
theorem Comes.head {R : Rule} {c d e : List Int} (h : d ∈ nexts R c) (b : Comes R d e) : Comes R c e := (Comes.step .refl h).trans b
/-- what holds of the last and goes back along each step holds of the first -/
theorem Comes.back {R : Rule} {c e : List Int} {p : List Int → Prop} (a : Comes R c e) (he : p e) (hs : ∀ d f, Comes R c d → f ∈ nexts R d → p f → p d) : p c := by
  induction a with
  | refl => exact he
  | step a h ih => exact ih (hs _ _ a h he)
/-! ### a crowd of n rooms and h hands -/
structure Cr (n : Nat) (h : Int) (c : List Int) : Prop where
  len : c.length = n
  pos : ∀ x ∈ c, 0 ≤ x
  sum : c.sum = h
theorem bump_len (c : List Int) (i : Nat) (z : Int) : (bump c i z).length = c.length := List.length_set
theorem bump_sum {c : List Int} {i : Nat} {z : Int} (h : i < c.length) : (bump c i z).sum = c.sum + z := by
  unfold bump
  induction c generalizing i with
  | nil => cases h
  | cons a r ih =>
    cases i with
    | zero => simp only [List.set_cons_zero, List.sum_cons, List.getD_cons_zero]; omega
    | succ i =>
      have := ih (i := i) (by simpa using h)
      simp only [List.set_cons_succ, List.sum_cons, List.getD_cons_succ]
      omega
theorem bump_get {c : List Int} {i j : Nat} {z : Int} (h : i < c.length) : (bump c i z).getD j 0 = if j = i then c.getD i 0 + z else c.getD j 0 := by
  unfold bump
  rw [List.getD_eq_getElem?_getD, List.getElem?_set]
  by_cases e : j = i
  · subst e; rw [if_pos rfl, if_pos rfl, if_pos h]; rfl
  · rw [if_neg (fun z => e z.symm), if_neg e, List.getD_eq_getElem?_getD]
theorem bump_at {c : List Int} {i j : Nat} {z : Int} (h : i < c.length) : (bump c i z).getD j 0 = c.getD j 0 + if j = i then z else 0 := by
  rw [bump_get h]
  split
  · rename_i e
    subst e
    rfl
  · omega
theorem pos_get {c : List Int} (h : ∀ x ∈ c, 0 ≤ x) (i : Nat) : 0 ≤ c.getD i 0 := by
  by_cases hi : i < c.length
  · rw [List.getD_eq_getElem?_getD, List.getElem?_eq_getElem hi]; exact h _ (List.getElem_mem hi)
  · rw [List.getD_eq_getElem?_getD, List.getElem?_eq_none (by omega)]; exact Int.le_refl 0
theorem pos_of {c : List Int} (h : ∀ i, i < c.length → 0 ≤ c.getD i 0) : ∀ x ∈ c, 0 ≤ x := by
  intro x hx
  obtain ⟨i, hi, e⟩ := List.mem_iff_getElem.mp hx
  have := h i hi
  rw [List.getD_eq_getElem?_getD, List.getElem?_eq_getElem hi] at this
  subst e
  exact this
theorem Cr.behind {n : Nat} {h : Int} {c : List Int} {m : Mt} (C : Cr n h c) (b : m.1 < n ∧ m.2.1 < n ∧ m.2.2.1 < n ∧ m.2.2.2 < n) (may : mayB c m = true) : Cr n h (behind c m) := by
  obtain ⟨a, b', c', d⟩ := m
  obtain ⟨h1, h2, h3, h4⟩ := b
  have hl := C.len
  simp only at h1 h2 h3 h4
  unfold PB.behind
  simp only
  have l1 := bump_len c a (-1)
  have l2 := bump_len (bump c a (-1)) b' (-1)
  have l3 := bump_len (bump (bump c a (-1)) b' (-1)) c' 1
  refine ⟨by rw [bump_len, l3, l2, l1, hl], pos_of fun i hi => ?_, ?_⟩
  · have pi := pos_get C.pos i
    unfold mayB at may
    simp only at may
    rw [bump_at (by omega), bump_at (by omega), bump_at (by omega), bump_at (by omega)]
    have q1 : 0 ≤ (if i = c' then (1 : Int) else 0) := by split <;> decide
    have q2 : 0 ≤ (if i = d then (1 : Int) else 0) := by split <;> decide
    by_cases e : a = b'
    · subst e
      rw [if_pos rfl] at may
      have may := of_decide_eq_true may
      by_cases ei : i = a
      · subst ei
        rw [if_pos rfl]
        omega
      · rw [if_neg ei]
        omega
    · rw [if_neg e, Bool.and_eq_true] at may
      have m1 := of_decide_eq_true may.1
      have m2 := of_decide_eq_true may.2
      by_cases ei : i = a
      · subst ei
        rw [if_pos rfl, if_neg e]
        omega
      · rw [if_neg ei]
        by_cases ej : i = b'
        · subst ej
          rw [if_pos rfl]
          omega
        · rw [if_neg ej]
          omega
  · rw [bump_sum (by omega), bump_sum (by omega), bump_sum (by omega), bump_sum (by omega), C.sum]
    omega
theorem Cr.next {R : Rule} {h : Int} {c d : List Int} (O : R.Ok) (C : Cr R.n h c) (hd : d ∈ nexts R c) : Cr R.n h d := by
  obtain ⟨k, hk, rfl⟩ := mem_nexts.mp hd
  obtain ⟨h1, h2⟩ := mem_canL.mp hk
  exact C.behind (O.mt _ (mt_mem h1)) h2
theorem Cr.comes {R : Rule} {h : Int} {c d : List Int} (O : R.Ok) (C : Cr R.n h c) (hd : Comes R c d) : Cr R.n h d := by
  induction hd with
  | refl => exact C
  | step _ e ih => exact ih.next O e
/-! ### there are few of them -/
def univ : Nat → Nat → List (List Int)
  | 0, 0 => [[]]
  | 0, _ + 1 => []
  | n + 1, h => (List.range (h + 1)).flatMap fun x => (univ n (h - x)).map fun r => (x : Int) :: r
theorem mem_univ : ∀ (n h : Nat) (c : List Int), Cr n h c → c ∈ univ n h
  | 0, h, c, C => by
    have e : c = [] := List.length_eq_zero_iff.mp C.len
    subst e
    have s := C.sum
    have : h = 0 := by simp at s; omega
    subst this
    simp [univ]
  | n + 1, h, c, C => by
    cases c with
    | nil => have := C.len; simp at this
    | cons x r =>
      have s := C.sum
      rw [List.sum_cons] at s
      have hx : 0 ≤ x := C.pos x List.mem_cons_self
      have hr : ∀ y ∈ r, 0 ≤ y := fun y hy => C.pos y (List.mem_cons_of_mem _ hy)
      have rs : 0 ≤ r.sum := by
        clear s C
        induction r with
        | nil => simp
        | cons a t ih =>
          rw [List.sum_cons]
          have := hr a List.mem_cons_self
          have := ih fun y hy => hr y (List.mem_cons_of_mem _ hy)
          omega
      have C' : Cr n ((h - x.toNat : Nat) : Int) r := ⟨by have := C.len; simpa using this, hr, by omega⟩
      have ih := mem_univ n (h - x.toNat) r C'
      unfold univ
      refine List.mem_flatMap.mpr ⟨x.toNat, List.mem_range.mpr (by omega), List.mem_map.mpr ⟨r, ih, ?_⟩⟩
      rw [show ((x.toNat : Nat) : Int) = x by omega]
theorem few_in {α : Type} : ∀ {l m : List α}, l.Nodup → (∀ x ∈ l, x ∈ m) → l.length ≤ m.length
  | [], _, _, _ => Nat.zero_le _
  | a :: l, m, hn, hs => by
    obtain ⟨h1, h2⟩ := List.nodup_cons.mp hn
    obtain ⟨s, t, e⟩ := List.append_of_mem (hs a List.mem_cons_self)
    have ih := few_in (l := l) (m := s ++ t) h2 fun x hx => by
      have hm := hs x (List.mem_cons_of_mem _ hx)
      rw [e] at hm
      rcases List.mem_append.mp hm with q | q
      · exact List.mem_append_left _ q
      · rcases List.mem_cons.mp q with q | q
        · subst q; exact absurd hx h1
        · exact List.mem_append_right _ q
    rw [e]
    simp only [List.length_append, List.length_cons] at ih ⊢
    omega
theorem univ_small : ∀ n ∈ List.range 5, ∀ h ∈ List.range 5, (univ n h).length ≤ 35 := by decide
theorem few_cr {n : Nat} {h : Int} {l : List (List Int)} (hn : n ≤ 4) (h0 : 0 ≤ h) (h4 : h ≤ 4) (nd : l.Nodup) (hc : ∀ c ∈ l, Cr n h c) : l.length ≤ 35 := by
  have e : h = ((h.toNat : Nat) : Int) := by omega
  refine Nat.le_trans (few_in nd fun c m => mem_univ n h.toNat c (by rw [← e]; exact hc c m)) (univ_small n (List.mem_range.mpr (by omega)) h.toNat (List.mem_range.mpr (by omega)))
/-! ### what crowds say -/
def Rule.say (R : Rule) (i : Nat) : Bool := R.says.getD i false
/-- some hand of the crowd does not say b -/
def wrongB (R : Rule) (b : Bool) (c : List Int) : Bool := (List.range c.length).any fun i => decide (0 < c.getD i 0) && decide (R.say i ≠ b)
/-! ### questions -/
inductive Qn where
  | least (s : List Nat) (n : Int)
  | more (s t : List Nat)
  | rest (s : List Nat) (m r : Int)
  | nt (q : Qn)
  | both (p q : Qn)
  | either (p q : Qn)
/-- some of k sorts, rising -/
def SomeOk (k : Nat) (s : List Nat) : Prop := s = (List.range k).filter fun i => decide (i ∈ s)
def Qn.Ok (k : Nat) : Qn → Prop
  | .least s _ => SomeOk k s
  | .more s t => SomeOk k s ∧ SomeOk k t
  | .rest s m r => SomeOk k s ∧ 0 ≤ r ∧ r < m
  | .nt q => q.Ok k
  | .both p q => p.Ok k ∧ q.Ok k
  | .either p q => p.Ok k ∧ q.Ok k
/-- how many stand within one another, but one -/
def Qn.dp : Qn → Nat
  | .nt q => q.dp + 1
  | .both p q => max p.dp q.dp + 1
  | .either p q => max p.dp q.dp + 1
  | _ => 0
def handsOf (s : List Nat) (cs : List Int) : Int := (s.map fun i => cs.getD i 0).sum
def Qn.truth (cs : List Int) : Qn → Bool
  | .least s n => decide (n ≤ handsOf s cs)
  | .more s t => decide (handsOf t cs < handsOf s cs)
  | .rest s m r => decide (handsOf s cs % m = r)
  | .nt q => !q.truth cs
  | .both p q => p.truth cs && q.truth cs
  | .either p q => p.truth cs || q.truth cs
/-! ### beginnings -/
def beginC (R : Rule) (cs : List Int) : List Int := (List.range cs.length).foldl (fun f i => bump f (R.starts.getD i 0) (cs.getD i 0)) (List.replicate R.n 0)
/-- at the first i sorts -/
def beginI (R : Rule) (cs : List Int) (i : Nat) : List Int := (List.range i).foldl (fun f i => bump f (R.starts.getD i 0) (cs.getD i 0)) (List.replicate R.n 0)
theorem beginI_succ (R : Rule) (cs : List Int) (i : Nat) : beginI R cs (i + 1) = bump (beginI R cs i) (R.starts.getD i 0) (cs.getD i 0) := by
  unfold beginI
  rw [List.range_succ, List.foldl_append]
  rfl
theorem beginI_len (R : Rule) (cs : List Int) : ∀ i, (beginI R cs i).length = R.n
  | 0 => by simp [beginI]
  | i + 1 => by rw [beginI_succ, bump_len, beginI_len R cs i]
structure BeginOk (R : Rule) (cs : List Int) : Prop where
  len : cs.length = R.starts.length
  pos : ∀ x ∈ cs, 0 ≤ x
  sum1 : 1 ≤ cs.sum
  sum4 : cs.sum ≤ 4
theorem starts_lt {R : Rule} (O : R.Ok) {i : Nat} (h : i < R.starts.length) : R.starts.getD i 0 < R.n := by
  rw [List.getD_eq_getElem?_getD, List.getElem?_eq_getElem h]
  exact O.st _ (List.getElem_mem h)
theorem take_sum {cs : List Int} {i : Nat} (h : i < cs.length) : (cs.take (i + 1)).sum = (cs.take i).sum + cs.getD i 0 := by
  induction cs generalizing i with
  | nil => cases h
  | cons a r ih =>
    cases i with
    | zero => simp
    | succ i =>
      have := ih (i := i) (by simpa using h)
      simp only [List.take_succ_cons, List.sum_cons, List.getD_cons_succ, this]
      omega
theorem beginI_cr {R : Rule} {cs : List Int} (O : R.Ok) (B : BeginOk R cs) : ∀ i, i ≤ cs.length → Cr R.n (cs.take i).sum (beginI R cs i)
  | 0, _ => ⟨beginI_len R cs 0, fun x hx => by simp [beginI] at hx; omega, by
      have : ∀ k : Nat, (List.replicate k (0 : Int)).sum = 0 := fun k => by
        induction k with
        | zero => rfl
        | succ k ih => rw [List.replicate_succ, List.sum_cons, ih]; rfl
      simp only [beginI, List.range_zero, List.foldl_nil, this, List.take_zero, List.sum_nil]⟩
  | i + 1, h => by
    have C := beginI_cr O B i (by omega)
    have hs := starts_lt O (i := i) (by have := B.len; omega)
    have hl := beginI_len R cs i
    rw [beginI_succ, take_sum (by omega)]
    refine ⟨by rw [bump_len, hl], pos_of fun j hj => ?_, by rw [bump_sum (by omega), C.sum]⟩
    rw [bump_get (by omega)]
    have p1 := pos_get C.pos j
    have p2 := pos_get C.pos (R.starts.getD i 0)
    have p3 := pos_get B.pos i
    split <;> omega
theorem beginC_cr {R : Rule} {cs : List Int} (O : R.Ok) (B : BeginOk R cs) : Cr R.n cs.sum (beginC R cs) := by
  have := beginI_cr O B cs.length (Nat.le_refl _)
  rwa [List.take_length] at this
/-! ### whether a rule answers -/
/-- from here all that comes says b -/
def Sett (R : Rule) (b : Bool) (c : List Int) : Prop := ∀ d, Comes R c d → wrongB R b d = false
/-- from c some crowd of the goals comes -/
def Leads (R : Rule) (g : List Int → Prop) (c : List Int) : Prop := ∃ d, Comes R c d ∧ g d
def Ans (R : Rule) (q : Qn) (cs : List Int) : Prop := ∀ d, Comes R (beginC R cs) d → Leads R (Sett R (q.truth cs)) d
end PB
namespace PB
open PySem PySem.Spec PyProof.Rows L2
/-! ### heaps -/
abbrev iT (ns : List Int) : HO := .tup (ns.map V.int)
/-- the tuples stay -/
def Tst (H H' : Hp) : Prop := ∀ b xs, H b = some (.tup xs) → H' b = some (.tup xs)
theorem Tst.refl (H : Hp) : Tst H H := fun _ _ h => h
theorem Tst.trans {H H1 H2 : Hp} (a : Tst H H1) (b : Tst H1 H2) : Tst H H2 := fun c xs h => b c xs (a c xs h)
theorem tst {H H' : Hp} (s : Same H H') : Tst H H' := fun _ _ h => s _ _ h
theorem same_new {H : Hp} {p : Addr} {o : HO} (h : H p = none) : Same H (upd H p o) := fun b u q => by rw [upd_ne (ne_of_none q h)]; exact q
theorem same_upd {H0 H : Hp} {p : Addr} {o : HO} (s : Same H0 H) (h : H0 p = none) : Same H0 (upd H p o) := fun b u q => by rw [upd_ne (ne_of_none q h)]; exact s _ _ q
theorem tst_upd {H : Hp} {p : Addr} {o : HO} (h : ∀ xs, H p ≠ some (.tup xs)) : Tst H (upd H p o) := fun b xs q => by
  rw [upd_ne (fun e => h xs (by rw [← e]; exact q))]
  exact q
theorem tst_new {H : Hp} {p : Addr} {o : HO} (h : H p = none) : Tst H (upd H p o) := tst (same_new h)
theorem tst_lst {H : Hp} {p : Addr} {o : HO} {xs : List V} (h : H p = some (.lst xs)) : Tst H (upd H p o) := tst_upd fun ys e => by rw [h] at e; cases e
theorem tst_dT {H : Hp} {p : Addr} {o : HO} {xs} (h : H p = some (.dT xs)) : Tst H (upd H p o) := tst_upd fun ys e => by rw [h] at e; cases e
theorem free_of {H H' : Hp} {p : Addr} (s : Same H H') (h : H' p = none) : H p = none := s.free h
theorem ne_kind {H : Hp} {a b : Addr} {o u : HO} (h : H a = some o) (h' : H b = some u) (d : o ≠ u) : a ≠ b := ne_of h h' d
/-! ### rules in the heap -/
abbrev mtV (m : Mt) : List V := [.int (m.1 : Int), .int (m.2.1 : Int), .int (m.2.2.1 : Int), .int (m.2.2.2 : Int)]
abbrev nV (l : List Nat) : List V := l.map fun (i : Nat) => V.int (i : Int)
abbrev MtsAt (H : Hp) (ms : List Addr) (l : List Mt) : Prop := Paired (fun p m => H p = some (.tup (mtV m))) ms l
structure RuleAt (H : Hp) (a : Addr) (R : Rule) : Prop where
  ex : ∃ (s m y : Addr) (ms : List Addr), H a = some (.tup [.int (R.n : Int), .ref s, .ref m, .ref y]) ∧ H s = some (.tup (nV R.starts)) ∧ H m = some (.tup (ms.map V.ref)) ∧ MtsAt H ms R.meets ∧ H y = some (.tup (R.says.map V.bl))
theorem paired_mono {α β : Type} {F G : α → β → Prop} {l : List α} {m : List β} (h : Paired F l m) (f : ∀ a b, F a b → G a b) : Paired G l m := Paired.mapP h f
theorem RuleAt.mono {H H' : Hp} {a : Addr} {R : Rule} (h : RuleAt H a R) (t : Tst H H') : RuleAt H' a R := by
  obtain ⟨s, m, y, ms, h1, h2, h3, h4, h5⟩ := h.ex
  exact ⟨s, m, y, ms, t _ _ h1, t _ _ h2, t _ _ h3, paired_mono h4 fun p q z => t _ _ z, t _ _ h5⟩
theorem paired_get {α β : Type} {F : α → β → Prop} : ∀ {l : List α} {m : List β} {i : Nat} {y : β}, Paired F l m → m[i]? = some y → ∃ x, l[i]? = some x ∧ F x y
  | _, _, _, _, .nil, h => by simp at h
  | _, _, 0, y, .cons (a := a) r _, h => ⟨a, rfl, by have := Option.some.inj (show some _ = some y from h); subst this; exact r⟩
  | _ :: l, _ :: m, i + 1, y, .cons _ t, h => by
    obtain ⟨x, h1, h2⟩ := paired_get (i := i) t (by simpa using h)
    exact ⟨x, by simpa using h1, h2⟩
theorem paired_getL {α β : Type} {F : α → β → Prop} : ∀ {l : List α} {m : List β} {i : Nat} {x : α}, Paired F l m → l[i]? = some x → ∃ y, m[i]? = some y ∧ F x y
  | _, _, _, _, .nil, h => by simp at h
  | _, _, 0, x, .cons (b := b) r _, h => ⟨b, rfl, by have := Option.some.inj (show some _ = some x from h); subst this; exact r⟩
  | _ :: l, _ :: m, i + 1, x, .cons _ t, h => by
    obtain ⟨y, h1, h2⟩ := paired_getL (i := i) t (by simpa using h)
    exact ⟨y, by simpa using h1, h2⟩
theorem paired_snoc {α β : Type} {F : α → β → Prop} : ∀ {l : List α} {m : List β} {x : α} {y : β}, Paired F l m → F x y → Paired F (l ++ [x]) (m ++ [y])
  | _, _, _, _, .nil, h => .cons h .nil
  | _ :: _, _ :: _, _, _, .cons r t, h => .cons r (paired_snoc t h)
theorem mts_get {H : Hp} {ms : List Addr} {R : Rule} (h : MtsAt H ms R.meets) {k : Nat} (hk : k < R.meets.length) : ∃ p, ms[k]? = some p ∧ H p = some (.tup (mtV (R.mt k))) := by
  have e : R.meets[k]? = some (R.mt k) := by
    unfold Rule.mt
    rw [List.getD_eq_getElem?_getD, List.getElem?_eq_getElem hk]
    rfl
  exact paired_get (F := fun p m => H p = some (.tup (mtV m))) h e
theorem mts_len {H : Hp} {ms : List Addr} {l : List Mt} (h : MtsAt H ms l) : ms.length = l.length := Paired.length h
/-! ### questions in the heap -/
def QAt (H : Hp) : Qn → Addr → Prop
  | .least s n, a => ∃ b, H a = some (.tup [.str "least", .ref b, .int n]) ∧ H b = some (.tup (nV s))
  | .more s t, a => ∃ b c, H a = some (.tup [.str "more", .ref b, .ref c]) ∧ H b = some (.tup (nV s)) ∧ H c = some (.tup (nV t))
  | .rest s m r, a => ∃ b, H a = some (.tup [.str "rest", .ref b, .int m, .int r]) ∧ H b = some (.tup (nV s))
  | .nt q, a => ∃ b, H a = some (.tup [.str "not", .ref b]) ∧ QAt H q b
  | .both p q, a => ∃ b c, H a = some (.tup [.str "both", .ref b, .ref c]) ∧ QAt H p b ∧ QAt H q c
  | .either p q, a => ∃ b c, H a = some (.tup [.str "either", .ref b, .ref c]) ∧ QAt H p b ∧ QAt H q c
theorem QAt.mono {H H' : Hp} (t : Tst H H') : ∀ {q : Qn} {a : Addr}, QAt H q a → QAt H' q a
  | .least s n, a, ⟨b, h1, h2⟩ => ⟨b, t _ _ h1, t _ _ h2⟩
  | .more s u, a, ⟨b, c, h1, h2, h3⟩ => ⟨b, c, t _ _ h1, t _ _ h2, t _ _ h3⟩
  | .rest s m r, a, ⟨b, h1, h2⟩ => ⟨b, t _ _ h1, t _ _ h2⟩
  | .nt q, a, ⟨b, h1, h2⟩ => ⟨b, t _ _ h1, h2.mono t⟩
  | .both p q, a, ⟨b, c, h1, h2, h3⟩ => ⟨b, c, t _ _ h1, h2.mono t, h3.mono t⟩
  | .either p q, a, ⟨b, c, h1, h2, h3⟩ => ⟨b, c, t _ _ h1, h2.mono t, h3.mono t⟩
/-! ### items -/
theorem at_nat {xs : List V} {j : Nat} {v : V} (h : xs[j]? = some v) : atI xs (j : Int) = some v := atI_nat h
theorem get_int {c : List Int} {i : Nat} (h : i < c.length) : (c.map V.int)[i]? = some (V.int (c.getD i 0)) := by
  rw [List.getElem?_map, List.getElem?_eq_getElem h, List.getD_eq_getElem?_getD, List.getElem?_eq_getElem h]
  rfl
theorem at_int {c : List Int} {i : Nat} (h : i < c.length) : atI (c.map V.int) (i : Int) = some (V.int (c.getD i 0)) := atI_nat (get_int h)
theorem get_nat {c : List Nat} {i : Nat} (h : i < c.length) : (nV c)[i]? = some (V.int ((c.getD i 0 : Nat) : Int)) := by
  show (c.map fun (i : Nat) => V.int (i : Int))[i]? = _
  rw [List.getElem?_map, List.getElem?_eq_getElem h, List.getD_eq_getElem?_getD, List.getElem?_eq_getElem h]
  rfl
theorem at_natV {c : List Nat} {i : Nat} (h : i < c.length) : atI (nV c) (i : Int) = some (V.int ((c.getD i 0 : Nat) : Int)) := atI_nat (get_nat h)
theorem at_bl {c : List Bool} {i : Nat} (h : i < c.length) : atI (c.map V.bl) (i : Int) = some (V.bl (c.getD i false)) := atI_nat (by
  rw [List.getElem?_map, List.getElem?_eq_getElem h, List.getD_eq_getElem?_getD, List.getElem?_eq_getElem h]
  rfl)
theorem ixN_nat {n i : Nat} (h : i < n) : ixN n (i : Int) = some i := by
  unfold ixN
  rw [if_pos (by omega), if_pos (by omega)]
  rfl
theorem map_bump {c : List Int} {i : Nat} {z : Int} : (c.map V.int).set i (V.int (c.getD i 0 + z)) = (bump c i z).map V.int := by
  unfold bump
  rw [List.map_set]
theorem small_le {n : Nat} (h : n ≤ 1000) : n ≤ sizeLine := Nat.le_of_lt (small1000 h)
end PB
namespace PB
open PySem L2
def top (i : Nat) : Stmt := PySem.Challenge.pw_passersby_k92_whole_errs_just_where_a_pa.main.body.getD i (.Pass ⟨0, 0, 0, 0⟩)
abbrev s_is_whole : Stmt := top 8
abbrev N_is_whole : List Str := ["thing"]
theorem sc_is_whole : FnScope N_is_whole ["thing"] (defScope s_is_whole) := ⟨rfl, rfl, rfl, by decide +kernel, rfl, by decide +kernel, by decide +kernel⟩
abbrev s_is_from : Stmt := top 9
abbrev N_is_from : List Str := ["thing", "low", "high"]
theorem sc_is_from : FnScope N_is_from ["thing", "low", "high"] (defScope s_is_from) := ⟨rfl, rfl, rfl, by decide +kernel, rfl, by decide +kernel, by decide +kernel⟩
abbrev s_is_counts : Stmt := top 10
abbrev N_is_counts : List Str := ["sorts", "thing", "one"]
theorem sc_is_counts : FnScope N_is_counts ["sorts", "thing"] (defScope s_is_counts) := ⟨rfl, rfl, rfl, by decide +kernel, rfl, by decide +kernel, by decide +kernel⟩
abbrev s_is_crowd : Stmt := top 12
abbrev N_is_crowd : List Str := ["rule", "thing", "one"]
theorem sc_is_crowd : FnScope N_is_crowd ["rule", "thing"] (defScope s_is_crowd) := ⟨rfl, rfl, rfl, by decide +kernel, rfl, by decide +kernel, by decide +kernel⟩
abbrev s_begun : Stmt := top 13
abbrev N_begun : List Str := ["rule", "counts", "found", "sort", "many", "room"]
theorem sc_begun : FnScope N_begun ["rule", "counts"] (defScope s_begun) := ⟨rfl, rfl, rfl, by decide +kernel, rfl, by decide +kernel, by decide +kernel⟩
abbrev s_may_be : Stmt := top 14
abbrev N_may_be : List Str := ["crowd", "meeting"]
theorem sc_may_be : FnScope N_may_be ["crowd", "meeting"] (defScope s_may_be) := ⟨rfl, rfl, rfl, by decide +kernel, rfl, by decide +kernel, by decide +kernel⟩
abbrev s_can : Stmt := top 15
abbrev N_can : List Str := ["rule", "crowd", "number", "meeting"]
theorem sc_can : FnScope N_can ["rule", "crowd"] (defScope s_can) := ⟨rfl, rfl, rfl, by decide +kernel, rfl, by decide +kernel, by decide +kernel⟩
abbrev s_crowd_behind : Stmt := top 16
abbrev N_crowd_behind : List Str := ["crowd", "meeting", "found", "room"]
theorem sc_crowd_behind : FnScope N_crowd_behind ["crowd", "meeting"] (defScope s_crowd_behind) := ⟨rfl, rfl, rfl, by decide +kernel, rfl, by decide +kernel, by decide +kernel⟩
abbrev s_is_next : Stmt := top 17
abbrev N_is_next : List Str := ["rule", "crowd", "number"]
theorem sc_is_next : FnScope N_is_next ["rule", "crowd", "number"] (defScope s_is_next) := ⟨rfl, rfl, rfl, by decide +kernel, rfl, by decide +kernel, by decide +kernel⟩
abbrev s_met : Stmt := top 18
abbrev N_met : List Str := ["rule", "crowd", "number"]
theorem sc_met : FnScope N_met ["rule", "crowd", "number"] (defScope s_met) := ⟨rfl, rfl, rfl, by decide +kernel, rfl, by decide +kernel, by decide +kernel⟩
abbrev s_said : Stmt := top 19
abbrev N_said : List Str := ["rule", "crowd", "words", "room", "many"]
theorem sc_said : FnScope N_said ["rule", "crowd"] (defScope s_said) := ⟨rfl, rfl, rfl, by decide +kernel, rfl, by decide +kernel, by decide +kernel⟩
abbrev s_graph_of : Stmt := top 21
abbrev N_graph_of : List Str := ["rule", "crowd", "limit", "found", "line", "seen", "here", "number", "behind"]
theorem sc_graph_of : FnScope N_graph_of ["rule", "crowd", "limit"] (defScope s_graph_of) := ⟨rfl, rfl, rfl, by decide +kernel, rfl, by decide +kernel, by decide +kernel⟩
abbrev s_row_to : Stmt := top 22
abbrev N_row_to : List Str := ["graph", "crowd", "goals", "steps", "line", "at", "number", "behind", "numbers", "here"]
theorem sc_row_to : FnScope N_row_to ["graph", "crowd", "goals"] (defScope s_row_to) := ⟨rfl, rfl, rfl, by decide +kernel, rfl, by decide +kernel, by decide +kernel⟩
abbrev s_ranks_to : Stmt := top 23
abbrev N_ranks_to : List Str := ["graph", "goals", "ahead", "crowd", "number", "behind", "found", "line", "at", "goal"]
theorem sc_ranks_to : FnScope N_ranks_to ["graph", "goals"] (defScope s_ranks_to) := ⟨rfl, rfl, rfl, by decide +kernel, rfl, by decide +kernel, by decide +kernel⟩
abbrev s_hands_of : Stmt := top 25
abbrev N_hands_of : List Str := ["some", "counts", "sort"]
theorem sc_hands_of : FnScope N_hands_of ["some", "counts"] (defScope s_hands_of) := ⟨rfl, rfl, rfl, by decide +kernel, rfl, by decide +kernel, by decide +kernel⟩
abbrev s_holds : Stmt := top 26
abbrev N_holds : List Str := ["question", "counts", "word"]
theorem sc_holds : FnScope N_holds ["question", "counts"] (defScope s_holds) := ⟨rfl, rfl, rfl, by decide +kernel, rfl, by decide +kernel, by decide +kernel⟩
abbrev s_truth_word : Stmt := top 28
abbrev N_truth_word : List Str := ["question", "counts"]
theorem sc_truth_word : FnScope N_truth_word ["question", "counts"] (defScope s_truth_word) := ⟨rfl, rfl, rfl, by decide +kernel, rfl, by decide +kernel, by decide +kernel⟩
abbrev s_gone_through : Stmt := top 29
abbrev N_gone_through : List Str := ["rule", "question", "counts", "limit", "graph", "word", "to_wrong", "to_settled", "crowd"]
theorem sc_gone_through : FnScope N_gone_through ["rule", "question", "counts", "limit"] (defScope s_gone_through) := ⟨rfl, rfl, rfl, by decide +kernel, rfl, by decide +kernel, by decide +kernel⟩
abbrev s_answers : Stmt := top 30
abbrev N_answers : List Str := ["rule", "question", "counts", "limit", "graph", "to_wrong", "to_settled"]
theorem sc_answers : FnScope N_answers ["rule", "question", "counts", "limit"] (defScope s_answers) := ⟨rfl, rfl, rfl, by decide +kernel, rfl, by decide +kernel, by decide +kernel⟩
abbrev s_err_at : Stmt := top 32
abbrev N_err_at : List Str := ["rule", "question", "counts", "limit", "graph", "to_wrong", "to_settled", "lost", "begin", "numbers", "crowd", "ranks", "one"]
theorem sc_err_at : FnScope N_err_at ["rule", "question", "counts", "limit"] (defScope s_err_at) := ⟨rfl, rfl, rfl, by decide +kernel, rfl, by decide +kernel, by decide +kernel⟩
abbrev s_beginnings : Stmt := top 33
abbrev N_beginnings : List Str := ["sorts", "hands", "rows", "sort", "longer", "row", "many"]
theorem sc_beginnings : FnScope N_beginnings ["sorts", "hands"] (defScope s_beginnings) := ⟨rfl, rfl, rfl, by decide +kernel, rfl, by decide +kernel, by decide +kernel⟩
abbrev s_err_of : Stmt := top 34
abbrev N_err_of : List Str := ["rule", "question", "most", "limit", "hands", "counts", "paper"]
theorem sc_err_of : FnScope N_err_of ["rule", "question", "most", "limit"] (defScope s_err_of) := ⟨rfl, rfl, rfl, by decide +kernel, rfl, by decide +kernel, by decide +kernel⟩
abbrev s_is_number : Stmt := top 37
abbrev N_is_number : List Str := ["thing"]
theorem sc_is_number : FnScope N_is_number ["thing"] (defScope s_is_number) := ⟨rfl, rfl, rfl, by decide +kernel, rfl, by decide +kernel, by decide +kernel⟩
abbrev s_passed_along : Stmt := top 38
abbrev N_passed_along : List Str := ["rule", "crowd", "numbers", "word", "found", "place", "number"]
theorem sc_passed_along : FnScope N_passed_along ["rule", "crowd", "numbers", "word"] (defScope s_passed_along) := ⟨rfl, rfl, rfl, by decide +kernel, rfl, by decide +kernel, by decide +kernel⟩
abbrev s_ask_shape : Stmt := top 39
abbrev N_ask_shape : List Str := ["rule", "thing"]
theorem sc_ask_shape : FnScope N_ask_shape ["rule", "thing"] (defScope s_ask_shape) := ⟨rfl, rfl, rfl, by decide +kernel, rfl, by decide +kernel, by decide +kernel⟩
abbrev s_is_ranked : Stmt := top 40
abbrev N_is_ranked : List Str := ["rule", "thing", "hands"]
theorem sc_is_ranked : FnScope N_is_ranked ["rule", "thing", "hands"] (defScope s_is_ranked) := ⟨rfl, rfl, rfl, by decide +kernel, rfl, by decide +kernel, by decide +kernel⟩
abbrev s_ask_ranks : Stmt := top 41
abbrev N_ask_ranks : List Str := ["rule", "ranks", "hands", "place", "one"]
theorem sc_ask_ranks : FnScope N_ask_ranks ["rule", "ranks", "hands"] (defScope s_ask_ranks) := ⟨rfl, rfl, rfl, by decide +kernel, rfl, by decide +kernel, by decide +kernel⟩
abbrev s_ask_ways : Stmt := top 42
abbrev N_ask_ways : List Str := ["rule", "ranks", "word", "told", "place", "one", "crowd", "rank", "behind", "number", "other"]
theorem sc_ask_ways : FnScope N_ask_ways ["rule", "ranks", "word"] (defScope s_ask_ways) := ⟨rfl, rfl, rfl, by decide +kernel, rfl, by decide +kernel, by decide +kernel⟩
abbrev s_lets_err : Stmt := top 43
abbrev N_lets_err : List Str := ["rule", "question", "thing", "counts", "numbers", "ranks", "crowd"]
theorem sc_lets_err : FnScope N_lets_err ["rule", "question", "thing"] (defScope s_lets_err) := ⟨rfl, rfl, rfl, by decide +kernel, rfl, by decide +kernel, by decide +kernel⟩
abbrev s_rooms_for : Stmt := top 52
abbrev N_rooms_for : List Str := ["question", "word"]
theorem sc_rooms_for : FnScope N_rooms_for ["question"] (defScope s_rooms_for) := ⟨rfl, rfl, rfl, by decide +kernel, rfl, by decide +kernel, by decide +kernel⟩
abbrev s_started : Stmt := top 53
abbrev N_started : List Str := ["sorts", "some", "one", "other", "sort"]
theorem sc_started : FnScope N_started ["sorts", "some", "one", "other"] (defScope s_started) := ⟨rfl, rfl, rfl, by decide +kernel, rfl, by decide +kernel, by decide +kernel⟩
abbrev s_made_least : Stmt := top 54
abbrev N_made_least : List Str := ["some", "most", "sorts", "meets", "a", "b"]
theorem sc_made_least : FnScope N_made_least ["some", "most", "sorts"] (defScope s_made_least) := ⟨rfl, rfl, rfl, by decide +kernel, rfl, by decide +kernel, by decide +kernel⟩
abbrev s_made_more : Stmt := top 55
abbrev N_made_more : List Str := ["these", "those", "sorts", "starts", "sort"]
theorem sc_made_more : FnScope N_made_more ["these", "those", "sorts"] (defScope s_made_more) := ⟨rfl, rfl, rfl, by decide +kernel, rfl, by decide +kernel, by decide +kernel⟩
abbrev s_made_rest : Stmt := top 56
abbrev N_made_rest : List Str := ["some", "by", "left", "sorts", "words", "meets", "a", "b", "wrong", "says", "room"]
theorem sc_made_rest : FnScope N_made_rest ["some", "by", "left", "sorts"] (defScope s_made_rest) := ⟨rfl, rfl, rfl, by decide +kernel, rfl, by decide +kernel, by decide +kernel⟩
abbrev s_made_small : Stmt := top 58
abbrev N_made_small : List Str := ["question", "sorts", "word"]
theorem sc_made_small : FnScope N_made_small ["question", "sorts"] (defScope s_made_small) := ⟨rfl, rfl, rfl, by decide +kernel, rfl, by decide +kernel, by decide +kernel⟩
abbrev s_made : Stmt := top 59
abbrev N_made : List Str := ["question", "sorts"]
theorem sc_made : FnScope N_made ["question", "sorts"] (defScope s_made) := ⟨rfl, rfl, rfl, by decide +kernel, rfl, by decide +kernel, by decide +kernel⟩
abbrev s_l_feed : Stmt := top 61
abbrev N_l_feed : List Str := ["_law_script", "_law_k", "_law_cell", "_law_great"]
theorem sc_l_feed : FnScope N_l_feed ["_law_script", "_law_k"] (defScope s_l_feed) := ⟨rfl, rfl, rfl, by decide +kernel, rfl, by decide +kernel, by decide +kernel⟩
abbrev s_l_next : Stmt := top 62
abbrev N_l_next : List Str := ["_law_feed_here", "_law_many_here", "_law_digit", "_law_turn", "_law_one_here"]
theorem sc_l_next : FnScope N_l_next ["_law_feed_here", "_law_many_here"] (defScope s_l_next) := ⟨rfl, rfl, rfl, by decide +kernel, rfl, by decide +kernel, by decide +kernel⟩
abbrev s_l_one : Stmt := top 63
abbrev N_l_one : List Str := ["_law_feed_here", "_law_some_here"]
theorem sc_l_one : FnScope N_l_one ["_law_feed_here", "_law_some_here"] (defScope s_l_one) := ⟨rfl, rfl, rfl, by decide +kernel, rfl, by decide +kernel, by decide +kernel⟩
abbrev s_l_some : Stmt := top 64
abbrev N_l_some : List Str := ["_law_feed_here", "_law_sorts", "_law_least", "_law_some_here", "_law_sort"]
theorem sc_l_some : FnScope N_l_some ["_law_feed_here", "_law_sorts", "_law_least"] (defScope s_l_some) := ⟨rfl, rfl, rfl, by decide +kernel, rfl, by decide +kernel, by decide +kernel⟩
abbrev s_l_plain : Stmt := top 65
abbrev N_l_plain : List Str := ["_law_feed_here", "_law_sorts", "_law_way", "_law_sides", "_law_these", "_law_by", "_law_sort"]
theorem sc_l_plain : FnScope N_l_plain ["_law_feed_here", "_law_sorts"] (defScope s_l_plain) := ⟨rfl, rfl, rfl, by decide +kernel, rfl, by decide +kernel, by decide +kernel⟩
abbrev s_l_question : Stmt := top 66
abbrev N_l_question : List Str := ["_law_feed_here", "_law_sorts", "_law_size", "_law_deep", "_law_way", "_law_first", "_law_one_here"]
theorem sc_l_question : FnScope N_l_question ["_law_feed_here", "_law_sorts", "_law_size", "_law_deep"] (defScope s_l_question) := ⟨rfl, rfl, rfl, by decide +kernel, rfl, by decide +kernel, by decide +kernel⟩
abbrev s_l_rule : Stmt := top 67
abbrev N_l_rule : List Str := ["_law_feed_here", "_law_most", "_law_sorts", "_law_rooms", "_law_often", "_law_meets", "_law_a", "_law_b", "_law_c", "_law_d", "_law_starts", "_law_sort", "_law_room"]
theorem sc_l_rule : FnScope N_l_rule ["_law_feed_here", "_law_most", "_law_sorts"] (defScope s_l_rule) := ⟨rfl, rfl, rfl, by decide +kernel, rfl, by decide +kernel, by decide +kernel⟩
abbrev s_l_behind : Stmt := top 68
abbrev N_l_behind : List Str := ["_law_crowd_here", "_law_meeting", "_law_found", "_law_k"]
theorem sc_l_behind : FnScope N_l_behind ["_law_crowd_here", "_law_meeting"] (defScope s_l_behind) := ⟨rfl, rfl, rfl, by decide +kernel, rfl, by decide +kernel, by decide +kernel⟩
abbrev s_l_can : Stmt := top 69
abbrev N_l_can : List Str := ["_law_rule_here", "_law_crowd_here", "_law_k"]
theorem sc_l_can : FnScope N_l_can ["_law_rule_here", "_law_crowd_here"] (defScope s_l_can) := ⟨rfl, rfl, rfl, by decide +kernel, rfl, by decide +kernel, by decide +kernel⟩
abbrev s_l_crowd : Stmt := top 70
abbrev N_l_crowd : List Str := ["_law_rule_here", "_law_counts", "_law_found", "_law_sort"]
theorem sc_l_crowd : FnScope N_l_crowd ["_law_rule_here", "_law_counts"] (defScope s_l_crowd) := ⟨rfl, rfl, rfl, by decide +kernel, rfl, by decide +kernel, by decide +kernel⟩
abbrev s_l_truth : Stmt := top 71
abbrev N_l_truth : List Str := ["_law_question_here", "_law_counts", "_law_word", "_law_some_here", "_law_hands", "_law_part", "_law_sort", "_law_many_here"]
theorem sc_l_truth : FnScope N_l_truth ["_law_question_here", "_law_counts"] (defScope s_l_truth) := ⟨rfl, rfl, rfl, by decide +kernel, rfl, by decide +kernel, by decide +kernel⟩
abbrev s_l_after : Stmt := top 72
abbrev N_l_after : List Str := ["_law_rule_here", "_law_crowd_here", "_law_found", "_law_line", "_law_here", "_law_one_here", "_law_number"]
theorem sc_l_after : FnScope N_l_after ["_law_rule_here", "_law_crowd_here"] (defScope s_l_after) := ⟨rfl, rfl, rfl, by decide +kernel, rfl, by decide +kernel, by decide +kernel⟩
abbrev s_l_leading : Stmt := top 73
abbrev N_l_leading : List Str := ["_law_after_here", "_law_some_here", "_law_found", "_law_many_here", "_law_crowd_here", "_law_leads", "_law_one_here"]
theorem sc_l_leading : FnScope N_l_leading ["_law_after_here", "_law_some_here"] (defScope s_l_leading) := ⟨rfl, rfl, rfl, by decide +kernel, rfl, by decide +kernel, by decide +kernel⟩
abbrev s_l_many : Stmt := top 74
abbrev N_l_many : List Str := ["_law_crowd_here", "_law_rooms", "_law_room"]
theorem sc_l_many : FnScope N_l_many ["_law_crowd_here", "_law_rooms"] (defScope s_l_many) := ⟨rfl, rfl, rfl, by decide +kernel, rfl, by decide +kernel, by decide +kernel⟩
abbrev s_l_answers : Stmt := top 75
abbrev N_l_answers : List Str := ["_law_rule_here", "_law_question_here", "_law_counts", "_law_truth_here", "_law_after_here", "_law_rooms", "_law_wrong", "_law_good", "_law_room", "_law_crowd_here"]
theorem sc_l_answers : FnScope N_l_answers ["_law_rule_here", "_law_question_here", "_law_counts"] (defScope s_l_answers) := ⟨rfl, rfl, rfl, by decide +kernel, rfl, by decide +kernel, by decide +kernel⟩
abbrev s_l_begins : Stmt := top 76
abbrev N_l_begins : List Str := ["_law_sorts", "_law_few", "_law_most", "_law_rows", "_law_sort", "_law_longer", "_law_row", "_law_many_here"]
theorem sc_l_begins : FnScope N_l_begins ["_law_sorts", "_law_few", "_law_most"] (defScope s_l_begins) := ⟨rfl, rfl, rfl, by decide +kernel, rfl, by decide +kernel, by decide +kernel⟩
abbrev s_l_near : Stmt := top 77
abbrev N_l_near : List Str := ["_law_feed_here", "_law_sorts", "_law_some_here", "_law_question_here", "_law_rooms", "_law_starts", "_law_meets", "_law_says", "_law_at", "_law_room"]
theorem sc_l_near : FnScope N_l_near ["_law_feed_here", "_law_sorts"] (defScope s_l_near) := ⟨rfl, rfl, rfl, by decide +kernel, rfl, by decide +kernel, by decide +kernel⟩
abbrev s_law : Stmt := top 78
abbrev N_law : List Str := ["_law_script", "_law_k", "_law_feed_here", "_law_sorts", "_law_rule_here", "_law_question_here", "_law_first", "_law_most", "_law_counts", "_law_due", "_law_paper"]
theorem sc_law : FnScope N_law ["_law_script"] (defScope s_law) := ⟨rfl, rfl, rfl, by decide +kernel, rfl, by decide +kernel, by decide +kernel⟩
end PB
namespace PB
open PySem PySem.Spec PyProof.Rows L2
/-! ### dicts whose keys are crowds -/
theorem dget_t {H : Hp} {a b : Addr} {kvs : List (List L2.Key × V)} {c : List Int} {v : Option V} (e : Rd H a (.dT kvs)) (eb : H b = some (iT c)) (hv : valV kvs (ck c) = v) : DGet H a (.ref b) v :=
  .inr ⟨kvs, ck c, b, e, rfl, by rw [ck_kV]; exact eb, hv.symm⟩
theorem dput_t {H : Hp} {a b : Addr} {kvs : List (List L2.Key × V)} {c : List Int} {v : V} (e : H a = some (.dT kvs)) (eb : H b = some (iT c)) (hl : kvs.length < sizeLine) : DPut H a (.ref b) v (upd H a (.dT (putK kvs (ck c) v))) :=
  .inr ⟨kvs, ck c, b, e, rfl, by rw [ck_kV]; exact eb, hl, rfl⟩
/-- a value for each crowd -/
def fkv (f : List Int → V) (l : List (List Int)) : List (List L2.Key × V) := l.map fun k => (ck k, f k)
theorem fkv_val (f : List Int → V) : ∀ (l : List (List Int)) (k : List Int), valV (fkv f l) (ck k) = if k ∈ l then some (f k) else none
  | [], k => by rw [if_neg (by simp)]; rfl
  | x :: l, k => by
    have ih := fkv_val f l k
    show valV ((ck x, f x) :: fkv f l) (ck k) = _
    by_cases h : x = k
    · subst h
      rw [valV_pos rfl, if_pos (by simp)]
    · rw [valV_neg (fun z => h (ck_inj z)), ih]
      by_cases h2 : k ∈ l
      · rw [if_pos h2, if_pos (by simp [h2])]
      · rw [if_neg h2, if_neg (by simp [h2, Ne.symm h])]
theorem fkv_len (f : List Int → V) (l : List (List Int)) : (fkv f l).length = l.length := List.length_map _
theorem fkv_keys (f : List Int → V) (l : List (List Int)) : (fkv f l).map (·.1) = l.map ck := by
  unfold fkv
  rw [List.map_map]
  rfl
theorem ck_nodup {l : List (List Int)} (h : l.Nodup) : (l.map ck).Nodup := by
  induction l with
  | nil => exact List.nodup_nil
  | cons a l ih =>
    obtain ⟨h1, h2⟩ := List.nodup_cons.mp h
    rw [List.map_cons]
    refine List.nodup_cons.mpr ⟨fun m => ?_, ih h2⟩
    obtain ⟨x, hx, e⟩ := List.mem_map.mp m
    rw [ck_inj e] at hx
    exact h1 hx
theorem fkv_put {f : List Int → V} {l : List (List Int)} {k : List Int} {v : V} (h : k ∉ l) (hv : v = f k) : putK (fkv f l) (ck k) v = fkv f (l ++ [k]) := by
  rw [putK_new v (by rw [fkv_val, if_neg h]), hv]
  unfold fkv
  rw [List.map_append]
  rfl
theorem nd_snoc' {l : List (List Int)} {k : List Int} (h : l.Nodup) (hk : k ∉ l) : (l ++ [k]).Nodup := nd_snoc h hk
/-! ### the graph -/
/-- the pairs of numbers and crowds at these addresses -/
abbrev PairsAt (H : Hp) (ts : List Addr) (l : List (Nat × List Int)) : Prop := Paired (fun t (kb : Nat × List Int) => ∃ b, H t = some (.tup [.int (kb.1 : Int), .ref b]) ∧ H b = some (iT kb.2)) ts l
theorem tups_snoc {H : Hp} {ts : List Addr} {l : List (List Int)} {b : Addr} {d : List Int} (h : TupsAt H ts l) (hb : H b = some (iT d)) : TupsAt H (ts ++ [b]) (l ++ [d]) := paired_snoc h hb
theorem pairsAt_snoc {H : Hp} {ts : List Addr} {l : List (Nat × List Int)} {t b : Addr} {j : Nat} {d : List Int} (h : PairsAt H ts l) (ht : H t = some (.tup [.int (j : Int), .ref b])) (hb : H b = some (iT d)) : PairsAt H (ts ++ [t]) (l ++ [(j, d)]) := paired_snoc h ⟨b, ht, hb⟩
structure EdgeAt (H : Hp) (e : Addr) (R : Rule) (k : List Int) : Prop where
  ex : ∃ ts, H e = some (.lst (ts.map V.ref)) ∧ PairsAt H ts (succs R k)
theorem PairsAt.mono {H H' : Hp} {ts : List Addr} {l : List (Nat × List Int)} (h : PairsAt H ts l) (t : Tst H H') : PairsAt H' ts l := paired_mono h fun p q ⟨b, h1, h2⟩ => ⟨b, t _ _ h1, t _ _ h2⟩
theorem EdgeAt.mono {H H' : Hp} {e : Addr} {R : Rule} {k : List Int} (h : EdgeAt H e R k) (t : Tst H H') (he : ∀ xs, H e = some (.lst xs) → H' e = some (.lst xs)) : EdgeAt H' e R k := by
  obtain ⟨ts, h1, h2⟩ := h.ex
  exact ⟨ts, he _ h1, h2.mono t⟩
/-- each crowd with its list -/
def gkv : List (List Int) → List Addr → List (List L2.Key × V)
  | k :: ks, e :: es => (ck k, V.ref e) :: gkv ks es
  | _, _ => []
theorem gkv_len {F : List Int → Addr → Prop} : ∀ {ks : List (List Int)} {es : List Addr}, Paired F ks es → (gkv ks es).length = ks.length
  | [], _, .nil => rfl
  | _ :: _, _ :: _, .cons _ t => congrArg Nat.succ (gkv_len t)
theorem gkv_keys {F : List Int → Addr → Prop} : ∀ {ks : List (List Int)} {es : List Addr}, Paired F ks es → (gkv ks es).map (·.1) = ks.map ck
  | [], _, .nil => rfl
  | k :: _, e :: _, .cons _ t => by
    show ck k :: _ = _
    rw [gkv_keys t]
    rfl
theorem gkv_val {F : List Int → Addr → Prop} : ∀ {ks : List (List Int)} {es : List Addr} {k : List Int}, Paired F ks es → k ∈ ks → ∃ e, valV (gkv ks es) (ck k) = some (.ref e) ∧ F k e ∧ e ∈ es
  | [], _, k, _, h => by cases h
  | x :: ks, e :: es, k, .cons r t, h => by
    by_cases hx : x = k
    · subst hx
      exact ⟨e, valV_pos rfl, r, List.mem_cons_self⟩
    · obtain ⟨e', h1, h2, h3⟩ := gkv_val t ((List.mem_cons.mp h).resolve_left fun z => hx z.symm)
      exact ⟨e', (valV_neg (p := (ck x, V.ref e)) (fun z => hx (ck_inj z))).trans h1, h2, List.mem_cons_of_mem _ h3⟩
theorem gkv_none {F : List Int → Addr → Prop} : ∀ {ks : List (List Int)} {es : List Addr} {k : List Int}, Paired F ks es → k ∉ ks → valV (gkv ks es) (ck k) = none
  | [], _, k, .nil, h => rfl
  | x :: ks, e :: es, k, .cons r t, h => by
    have hx : ¬ x = k := fun z => h (by rw [z]; exact List.mem_cons_self)
    have := gkv_none (k := k) t fun z => h (List.mem_cons_of_mem _ z)
    exact (valV_neg (p := (ck x, V.ref e)) (fun z => hx (ck_inj z))).trans this
theorem gkv_isSome {F : List Int → Addr → Prop} {ks : List (List Int)} {es : List Addr} (p : Paired F ks es) (k : List Int) : (valV (gkv ks es) (ck k)).isSome = decide (k ∈ ks) := by
  by_cases h : k ∈ ks
  · obtain ⟨e, h1, _⟩ := gkv_val p h
    rw [h1, decide_eq_true h]
    rfl
  · rw [gkv_none p h, decide_eq_false h]
    rfl
theorem gkv_snoc {F : List Int → Addr → Prop} : ∀ {ks : List (List Int)} {es : List Addr} {k : List Int} {e : Addr}, Paired F ks es → gkv (ks ++ [k]) (es ++ [e]) = gkv ks es ++ [(ck k, V.ref e)]
  | [], _, k, e, .nil => rfl
  | x :: ks, y :: es, k, e, .cons r t => by
    show (ck x, V.ref y) :: gkv (ks ++ [k]) (es ++ [e]) = _
    rw [gkv_snoc t]
    rfl
theorem gkv_put {F : List Int → Addr → Prop} {ks : List (List Int)} {es : List Addr} {k : List Int} {e : Addr} (p : Paired F ks es) (h : k ∉ ks) : putK (gkv ks es) (ck k) (.ref e) = gkv (ks ++ [k]) (es ++ [e]) := by
  rw [putK_new _ (gkv_none p h), gkv_snoc p]
/-- the graph at g: its crowds, in order -/
structure GraphAt (H : Hp) (g : Addr) (R : Rule) (ks : List (List Int)) : Prop where
  ex : ∃ es, H g = some (.dT (gkv ks es)) ∧ Paired (fun k e => EdgeAt H e R k) ks es
/-- what comes of c, all of it -/
structure AllOf (R : Rule) (c : List Int) (ks : List (List Int)) : Prop where
  nd : ks.Nodup
  all : ∀ k, k ∈ ks ↔ Comes R c k
theorem allOf_closed {R : Rule} {c : List Int} {ks : List (List Int)} (nd : ks.Nodup) (h0 : c ∈ ks) (hc : ∀ k ∈ ks, Comes R c k) (cl : ∀ k ∈ ks, ∀ d ∈ nexts R k, d ∈ ks) : AllOf R c ks :=
  ⟨nd, fun k => ⟨hc k, fun h => by
    induction h with
    | refl => exact h0
    | step _ e ih => exact cl _ ih _ e⟩⟩
theorem AllOf.next {R : Rule} {c : List Int} {ks : List (List Int)} (A : AllOf R c ks) {k d : List Int} (hk : k ∈ ks) (hd : d ∈ nexts R k) : d ∈ ks := (A.all d).mpr (((A.all k).mp hk).step hd)
theorem AllOf.comes {R : Rule} {c : List Int} {ks : List (List Int)} (A : AllOf R c ks) {k d : List Int} (hk : k ∈ ks) (hd : Comes R k d) : d ∈ ks := (A.all d).mpr (((A.all k).mp hk).trans hd)
end PB
namespace PB
open PySem PySem.Spec PyProof.Rows L2
section
variable {P : Program} {w : World} {K : PySem.W.Frag} {mg : Str → Option Value} {base : Heap}
def spIsWhole : Sp := fun vs H Q _ => ∃ i, vs = [.int i] ∧ Q (.bl true) H
theorem d_is_whole (Z : BN mg) (A : At K mg "is_whole" s_is_whole ["thing"]) : Def P w K mg base 1 "is_whole" ["thing"] [] spIsWhole := by
  refine A.def sc_is_whole (fun vs H Q E h => ?_) (fun f cdv A outer s H vs Q E hr h => ?_)
  · obtain ⟨i, rfl, _⟩ := h
    rfl
  obtain ⟨i, rfl, q⟩ := h
  refine ⟨_, (pss_one (ps_ret (pe_and (pe_callB call_is3 (by rfl) Z.isinstance (by decide +kernel) (pa_cons (pv 0) (pa_cons (pe_bltn (v := .ty "int") (u := .type "int") (by rfl) Z.int (by decide +kernel) rfl) pa_nil))) (pe_one (pe_not (pe_callB call_is3 (by rfl) Z.isinstance (by decide +kernel) (pa_cons (pv 0) (pa_cons (pe_bltn (v := .ty "bool") (u := .type "bool") (by rfl) Z.bool (by decide +kernel) rfl) pa_nil)))))))), ?_⟩
  exact ⟨_, rfl, .inl ⟨i, rfl, true, rfl, iteT ⟨_, rfl, .inr (.inl ⟨i, rfl, false, rfl, q⟩)⟩⟩⟩
def spIsFrom : Sp := fun vs H Q _ => ∃ x l h, vs = [.int x, .int l, .int h] ∧ Q (.bl (decide (l ≤ x) && decide (x ≤ h))) H
theorem d_is_from (Z : BN mg) (A : At K mg "is_from" s_is_from ["thing", "low", "high"]) (D_is_whole : Def P w K mg base 1 "is_whole" ["thing"] [] spIsWhole) : Def P w K mg base 2 "is_from" ["thing", "low", "high"] [] spIsFrom := by
  refine A.def sc_is_from (fun vs H Q E h => ?_) (fun f cdv A outer s H vs Q E hr h => ?_)
  · obtain ⟨x, l, h, rfl, _⟩ := h
    rfl
  obtain ⟨x, l, h, rfl, q⟩ := h
  refine ⟨_, (pss_one (ps_ret (pe_and (pe_def D_is_whole hr rfl (pa_cons (pv 0) pa_nil)) (pe_one (pe_chain op_le op_le (pv 1) (pv 0) (pv 2)))))), ?_⟩
  refine ⟨_, rfl, x, rfl, true, rfl, iteT ?_⟩
  refine ⟨_, rfl, _, rfl, _, _, rfl, rfl, _, rfl, ?_⟩
  refine ite2 (fun c => ?_) (fun c => ?_)
  · rw [c, Bool.true_and] at q
    exact ⟨_, rfl, _, _, rfl, rfl, q⟩
  · rw [Bool.eq_false_iff.mpr c, Bool.false_and] at q
    exact q
def spMayBe : Sp := fun vs H Q _ => ∃ (a m : Addr) (c : List Int) (z : Mt), vs = [.ref a, .ref m] ∧ H a = some (iT c) ∧ H m = some (.tup (mtV z)) ∧ z.1 < c.length ∧ z.2.1 < c.length ∧ Q (.bl (mayB c z)) H
theorem d_may_be (Z : BN mg) (A : At K mg "may_be" s_may_be ["crowd", "meeting"]) : Def P w K mg base 1 "may_be" ["crowd", "meeting"] [] spMayBe := by
  refine A.def sc_may_be (fun vs H Q E h => ?_) (fun f cdv A outer s H vs Q E hr h => ?_)
  · obtain ⟨a, m, c, z, rfl, _⟩ := h
    rfl
  obtain ⟨a, m, c, z, rfl, ha, hm, h1, h2, q⟩ := h
  refine ⟨_, (pss_cons (ps_if (pt_cmpR op_eq (pe_ix ix_tup0 (pv 1) pe_int (fun _ _ => rfl)) (pe_ix ix_tup0 (pv 1) pe_int (fun _ _ => rfl)) (by first | exact nomark _ | rfl)) (pss_one (ps_ret (pe_cmpR op_ge (pe_ix ix_tup0 (pv 0) (pe_ix ix_tup0 (pv 1) pe_int (fun _ _ => rfl)) (fun _ _ => rfl)) pe_int (by first | exact nomark _ | rfl)))) pss_nil)
    (pss_one (ps_ret (pe_and (pe_cmpR op_ge (pe_ix ix_tup0 (pv 0) (pe_ix ix_tup0 (pv 1) pe_int (fun _ _ => rfl)) (fun _ _ => rfl)) pe_int (by first | exact nomark _ | rfl)) (pe_one (pe_cmpR op_ge (pe_ix ix_tup0 (pv 0) (pe_ix ix_tup0 (pv 1) pe_int (fun _ _ => rfl)) (fun _ _ => rfl)) pe_int (by first | exact nomark _ | rfl))))))), ?_⟩
  have m0 : atI (mtV z) 0 = some (.int (z.1 : Int)) := at_nat (j := 0) rfl
  have m1 : atI (mtV z) 1 = some (.int (z.2.1 : Int)) := at_nat (j := 1) rfl
  refine ⟨_, rfl, m, _, _, _, rfl, rfl, Rd.of hm, m0, _, rfl, m, _, _, _, rfl, rfl, Rd.of hm, m1, rfl, _, rfl, ?_⟩
  unfold mayB at q
  refine ite2 (fun e => ?_) (fun e => ?_)
  · have e' : z.1 = z.2.1 := by
      have := of_decide_eq_true e
      injection this with this
      omega
    rw [if_pos e'] at q
    exact ⟨_, rfl, _, rfl, m, _, _, _, rfl, rfl, Rd.of hm, m0, a, _, _, _, rfl, rfl, Rd.of ha, at_int h1, _, _, rfl, rfl, q⟩
  · have e' : ¬ z.1 = z.2.1 := fun h => e (decide_eq_true (by rw [h]))
    rw [if_neg e'] at q
    refine ⟨_, rfl, _, rfl, m, _, _, _, rfl, rfl, Rd.of hm, m0, a, _, _, _, rfl, rfl, Rd.of ha, at_int h1, _, _, rfl, rfl, _, rfl, ?_⟩
    refine ite2 (fun c' => ?_) (fun c' => ?_)
    · rw [show decide (1 ≤ c.getD z.1 0) = true from c', Bool.true_and] at q
      exact ⟨_, rfl, _, rfl, m, _, _, _, rfl, rfl, Rd.of hm, m1, a, _, _, _, rfl, rfl, Rd.of ha, at_int h2, _, _, rfl, rfl, q⟩
    · rw [show decide (1 ≤ c.getD z.1 0) = false from Bool.eq_false_iff.mpr c', Bool.false_and] at q
      exact q
end
end PB
namespace PB
open PySem PySem.Spec PyProof.Rows L2
section
variable {P : Program} {w : World} {K : PySem.W.Frag} {mg : Str → Option Value} {base : Heap}
def MtIn (n : Nat) (z : Mt) : Prop := z.1 < n ∧ z.2.1 < n ∧ z.2.2.1 < n ∧ z.2.2.2 < n
def spCrowdBehind : Sp := fun vs H Q _ => ∃ (a m : Addr) (c : List Int) (z : Mt), vs = [.ref a, .ref m] ∧ H a = some (iT c) ∧ H m = some (.tup (mtV z)) ∧ MtIn c.length z ∧ ∀ H' p, Same H H' → H p = none → H' p = some (iT (behind c z)) → Q (.ref p) H'
theorem d_crowd_behind (Z : BN mg) (A : At K mg "crowd_behind" s_crowd_behind ["crowd", "meeting"]) : Def P w K mg base 1 "crowd_behind" ["crowd", "meeting"] [] spCrowdBehind := by
  refine A.def sc_crowd_behind (fun vs H Q E h => ?_) (fun f cdv A outer s H vs Q E hr h => ?_)
  · obtain ⟨a, m, c, z, rfl, _⟩ := h
    rfl
  obtain ⟨a, m, c, z, rfl, ha, hm, ⟨h1, h2, h3, h4⟩, q⟩ := h
  refine ⟨_, (pss_cons (ps_set (i := 2) sc_crowd_behind.nd rfl (Or.inl rfl) (pe_callTy call_list0 (by rfl) Z.list (by decide +kernel) (pa_cons (pv 0) pa_nil)))
    (pss_cons (ps_for PassesOwn.never rfl (pi_tup (pe_slice sl_tup0 (pv 1) po_none (po_some pe_int))) (pg_name (i := 3) sc_crowd_behind.nd rfl (Or.inl rfl))
      (pss_one (ps_asg (pe_op op_sub (pe_ix ix_list0 (pv 2) (pv 3) (fun _ _ => rfl)) pe_int) (pg_sub (pv 2) (pv 3) set_list))))
    (pss_cons (ps_for PassesOwn.never rfl (pi_tup (pe_slice sl_tup0 (pv 1) (po_some pe_int) po_none)) (pg_name (i := 3) sc_crowd_behind.nd rfl (Or.inl rfl))
      (pss_one (ps_asg (pe_op op_add (pe_ix ix_list0 (pv 2) (pv 3) (fun _ _ => rfl)) pe_int) (pg_sub (pv 2) (pv 3) set_list))))
    (pss_one (ps_ret (pe_callTy call_tuple0 (by rfl) Z.tuple (by decide +kernel) (pa_cons (pv 2) pa_nil))))))), ?_⟩
  refine ⟨_, rfl, a, _, rfl, .inr (Rd.of ha), fun l hl => ?_⟩
  have s0 : Same H (upd H l (.lst (c.map V.int))) := same_new hl
  refine ⟨_, rfl, _, rfl, m, _, rfl, Rd.of (s0 _ _ hm), fun hw => absurd hw (show ¬ (HT.sIx 4 0 none = 0 ∧ HT.sIx 4 4 (some 2) = 4) by decide), fun _ t ht => ?_⟩
  have htH : H t = none := free_of s0 ht
  have nlt : l ≠ t := fun e => by rw [e] at ht; rw [upd_same] at ht; cases ht
  refine ⟨t, rfl, ⟨_, SqT.of upd_same⟩, for_tup (K := K) (a := t) (xs := [.int (z.1 : Int), .int (z.2.1 : Int)])
    (fun i σ H' => ∃ v, σ = [some (.ref a), some (.ref m), some (.ref l), v] ∧ Same H H' ∧ H' t = some (.tup [.int (z.1 : Int), .int (z.2.1 : Int)]) ∧
      H' l = some (.lst ((if i = 0 then c else if i = 1 then bump c z.1 (-1) else bump (bump c z.1 (-1)) z.2.1 (-1)).map V.int)))
    ⟨none, rfl, same_upd s0 htH, upd_same, by rw [upd_ne nlt]; exact upd_same⟩ (fun i σ H' _ ⟨_, _, _, e, _⟩ => SqT.of e) ?_ ?_⟩
  · rintro i x σ H' hx ⟨v, rfl, sH, ht', hl'⟩
    have nt : t ≠ l := nlt.symm
    match i, hx with
    | 0, hx =>
      obtain rfl : V.int (z.1 : Int) = x := Option.some.inj hx
      rw [if_pos rfl] at hl'
      refine ⟨_, rfl, _, rfl, l, _, _, _, rfl, rfl, Rd.of hl', at_int h1, _, _, rfl, rfl, _, rfl, _, rfl, l, _, _, z.1, rfl, rfl, hl', ixN_nat (by rw [List.length_map]; exact h1), ?_⟩
      refine ⟨_, rfl, same_upd sH hl, by rw [upd_ne nt]; exact ht', ?_⟩
      rw [upd_same, if_neg (by decide), if_pos rfl]
      exact congrArg (fun x => some (HO.lst x)) map_bump
    | 1, hx =>
      obtain rfl : V.int (z.2.1 : Int) = x := Option.some.inj hx
      rw [if_neg (by decide), if_pos rfl] at hl'
      have hb : z.2.1 < (bump c z.1 (-1)).length := by rw [bump_len]; exact h2
      refine ⟨_, rfl, _, rfl, l, _, _, _, rfl, rfl, Rd.of hl', at_int hb, _, _, rfl, rfl, _, rfl, _, rfl, l, _, _, z.2.1, rfl, rfl, hl', ixN_nat (by rw [List.length_map]; exact hb), ?_⟩
      refine ⟨_, rfl, same_upd sH hl, by rw [upd_ne nt]; exact ht', ?_⟩
      rw [upd_same, if_neg (by decide), if_neg (by decide)]
      exact congrArg (fun x => some (HO.lst x)) map_bump
    | i + 2, hx => exact absurd hx (by simp)
  rintro σ H1 ⟨v, rfl, sH1, ht1, hl1⟩
  have hl1 : H1 l = some (.lst ((bump (bump c z.1 (-1)) z.2.1 (-1)).map V.int)) := hl1
  generalize hc1 : bump (bump c z.1 (-1)) z.2.1 (-1) = c1 at hl1
  have hn1 : c1.length = c.length := by rw [← hc1, bump_len, bump_len]
  refine ⟨_, rfl, _, rfl, m, _, rfl, Rd.of (sH1 _ _ hm), fun hw => absurd hw (show ¬ (HT.sIx 4 0 (some 2) = 0 ∧ HT.sIx 4 4 none = 4) by decide), fun _ u hu => ?_⟩
  have huH : H u = none := free_of sH1 hu
  have nlu : l ≠ u := fun e => by rw [← e, hl1] at hu; cases hu
  refine ⟨u, rfl, ⟨_, SqT.of upd_same⟩, for_tup (K := K) (a := u) (xs := [.int (z.2.2.1 : Int), .int (z.2.2.2 : Int)])
    (fun i σ H' => ∃ v, σ = [some (.ref a), some (.ref m), some (.ref l), v] ∧ Same H H' ∧ H' u = some (.tup [.int (z.2.2.1 : Int), .int (z.2.2.2 : Int)]) ∧
      H' l = some (.lst ((if i = 0 then c1 else if i = 1 then bump c1 z.2.2.1 1 else bump (bump c1 z.2.2.1 1) z.2.2.2 1).map V.int)))
    ⟨_, rfl, same_upd sH1 huH, upd_same, by rw [upd_ne nlu]; exact hl1⟩ (fun i σ H' _ ⟨_, _, _, e, _⟩ => SqT.of e) ?_ ?_⟩
  · rintro i x σ H' hx ⟨v, rfl, sH, ht', hl'⟩
    have nt : u ≠ l := nlu.symm
    match i, hx with
    | 0, hx =>
      obtain rfl : V.int (z.2.2.1 : Int) = x := Option.some.inj hx
      rw [if_pos rfl] at hl'
      have hb : z.2.2.1 < c1.length := by rw [hn1]; exact h3
      refine ⟨_, rfl, _, rfl, l, _, _, _, rfl, rfl, Rd.of hl', at_int hb, _, _, rfl, rfl, _, rfl, _, rfl, l, _, _, z.2.2.1, rfl, rfl, hl', ixN_nat (by rw [List.length_map]; exact hb), ?_⟩
      refine ⟨_, rfl, same_upd sH hl, by rw [upd_ne nt]; exact ht', ?_⟩
      rw [upd_same, if_neg (by decide), if_pos rfl]
      exact congrArg (fun x => some (HO.lst x)) map_bump
    | 1, hx =>
      obtain rfl : V.int (z.2.2.2 : Int) = x := Option.some.inj hx
      rw [if_neg (by decide), if_pos rfl] at hl'
      have hb : z.2.2.2 < (bump c1 z.2.2.1 1).length := by rw [bump_len, hn1]; exact h4
      refine ⟨_, rfl, _, rfl, l, _, _, _, rfl, rfl, Rd.of hl', at_int hb, _, _, rfl, rfl, _, rfl, _, rfl, l, _, _, z.2.2.2, rfl, rfl, hl', ixN_nat (by rw [List.length_map]; exact hb), ?_⟩
      refine ⟨_, rfl, same_upd sH hl, by rw [upd_ne nt]; exact ht', ?_⟩
      rw [upd_same, if_neg (by decide), if_neg (by decide)]
      exact congrArg (fun x => some (HO.lst x)) map_bump
    | i + 2, hx => exact absurd hx (by simp)
  rintro σ H2 ⟨v, rfl, sH2, ht2, hl2⟩
  have hl2 : H2 l = some (.lst ((bump (bump c1 z.2.2.1 1) z.2.2.2 1).map V.int)) := hl2
  refine ⟨_, rfl, l, _, rfl, Rd.of hl2, fun p hp => ?_⟩
  refine q _ p (same_upd sH2 (free_of sH2 hp)) (free_of sH2 hp) ?_
  rw [upd_same, ← hc1]
  rfl
end
end PB
namespace PB
open PySem PySem.Spec PyProof.Rows L2
section
variable {P : Program} {w : World} {K : PySem.W.Frag} {mg : Str → Option Value} {base : Heap}
/-- the first i meetings that can be -/
def canI (R : Rule) (c : List Int) (i : Nat) : List Nat := (List.range i).filter fun k => mayB c (R.mt k)
theorem canI_succ (R : Rule) (c : List Int) (i : Nat) : canI R c (i + 1) = if mayB c (R.mt i) = true then canI R c i ++ [i] else canI R c i := by
  unfold canI
  rw [List.range_succ, List.filter_append]
  by_cases h : mayB c (R.mt i) = true
  · rw [if_pos h, List.filter_cons, if_pos h]
    rfl
  · rw [if_neg h, List.filter_cons, if_neg h, List.filter_nil, List.append_nil]
theorem canI_len (R : Rule) (c : List Int) (i : Nat) : (canI R c i).length ≤ i := by
  have := List.length_filter_le (fun k => mayB c (R.mt k)) (List.range i)
  rwa [List.length_range] at this
theorem ref_at {ms : List Addr} {i : Nat} {p : V} {p' : Addr} (h : (ms.map V.ref)[i]? = some p) (h' : ms[i]? = some p') : p = .ref p' := by
  rw [List.getElem?_map, h'] at h
  exact (Option.some.inj h).symm
theorem nV_snoc (l : List Nat) (i : Nat) : nV (l ++ [i]) = nV l ++ [.int (i : Int)] := by
  show (l ++ [i]).map _ = _
  rw [List.map_append]
  rfl
theorem len_lt {n : Nat} (h : n ≤ 1000) : n < sizeLine := small1000 h
def spCan : Sp := fun vs H Q _ => ∃ (r a : Addr) (R : Rule) (c : List Int), vs = [.ref r, .ref a] ∧ RuleAt H r R ∧ R.Ok ∧ H a = some (iT c) ∧ c.length = R.n ∧ ∀ H' p, Same H H' → H p = none → H' p = some (.lst (nV (canL R c))) → Q (.ref p) H'
theorem d_can (Z : BN mg) (A : At K mg "can" s_can ["rule", "crowd"]) (D_may_be : Def P w K mg base 1 "may_be" ["crowd", "meeting"] [] spMayBe) : Def P w K mg base 2 "can" ["rule", "crowd"] [] spCan := by
  refine A.def sc_can (fun vs H Q E h => ?_) (fun f cdv A outer s H vs Q E hr h => ?_)
  · obtain ⟨r, a, R, c, rfl, _⟩ := h
    rfl
  obtain ⟨r, a, R, c, rfl, hR, O, ha, hc, q⟩ := h
  obtain ⟨st, m, y, ms, r0, r1, r2, r3, r4⟩ := hR.ex
  refine ⟨_, (pss_one (ps_ret (pe_lc (own := [("number", 2), ("meeting", 3)]) (g := (gTup0 2 (gCons (gName 2) (gCons (gName 3) gNil)))) rfl sc_can.nd (pi_enumT (by rfl) Z.enumerate (pa_cons (pe_ix ix_tup0 (pv 0) pe_int (fun _ _ => rfl)) pa_nil)) (blkOk_by (own := [("number", 2), ("meeting", 3)]) (N := N_can) (sc := defScope s_can) (by decide +kernel)) (fun _ _ _ _ _ => (pg_tup0 rfl (pgs_cons (pg_name (i := 2) sc_can.nd rfl (Or.inl rfl)) (pgs_cons (pg_name (i := 3) sc_can.nd rfl (Or.inl rfl)) pgs_nil)))) (fun _ _ _ _ _ => pts_one (pt_val (pe_def D_may_be hr rfl (pa_cons (pv 1) (pa_cons (pv 3) pa_nil))))) (fun _ _ _ _ _ => (pv 2))))), ?_⟩
  refine ⟨_, rfl, r, _, _, _, rfl, rfl, Rd.of r0, at_nat (j := 2) rfl, m, _, rfl, SqT.of r2, fun D hD => lc_it walk_enumT (fun i H' => Same H H' ∧ H' D = some (.lst (nV (canI R c i))))
    ⟨same_new hD, upd_same⟩ (fun i H' _ h => SqT.of (h.1 _ _ r2)) ?_ ?_⟩
  · rintro i x H1 H1' hi ⟨sH, hD1⟩ ⟨T, x1, p, rfl, hT, rfl, e1, e2⟩
    have hi' : i < R.meets.length := by
      rw [List.length_map] at hi
      rw [← mts_len r3]
      exact hi
    obtain ⟨p', hp', hm⟩ := mts_get r3 hi'
    obtain rfl : p = .ref p' := ref_at e2 hp'
    obtain rfl : V.int (i : Int) = x1 := Option.some.inj e1
    have s1 : Same H (upd H1 T (.tup [.int (i : Int), .ref p'])) := same_upd sH (free_of sH hT)
    obtain ⟨b1, b2, b3, b4⟩ := O.mt _ (mt_mem hi')
    have nDT : D ≠ T := fun e => by rw [← e, hD1] at hT; cases hT
    refine ⟨T, _, rfl, Rd.of upd_same, rfl, _, _, rfl, _, _, rfl, rfl, rfl, _, rfl, _, rfl, a, p', c, R.mt i, rfl, s1 _ _ ha, s1 _ _ hm, by rw [hc]; exact b1, by rw [hc]; exact b2, _, rfl, ?_⟩
    refine ite2 (fun hb => ?_) (fun hb => ?_)
    · refine ⟨_, rfl, _, by rw [upd_ne nDT]; exact hD1, ?_, same_upd s1 hD, ?_⟩
      · rw [List.length_map]
        exact len_lt (by have := canI_len R c i; have := O.ml; omega)
      · rw [upd_same, canI_succ, if_pos hb, nV_snoc]
    · refine ⟨s1, ?_⟩
      rw [upd_ne nDT, hD1, canI_succ, if_neg hb]
  · rintro H1 ⟨sH, hD1⟩
    refine q H1 D sH hD ?_
    rw [hD1, List.length_map, mts_len r3]
    rfl
def spIsNext : Sp := fun vs H Q _ => ∃ (r a : Addr) (k : Nat) (R : Rule) (c : List Int), vs = [.ref r, .ref a, .int (k : Int)] ∧ RuleAt H r R ∧ R.Ok ∧ H a = some (iT c) ∧ c.length = R.n ∧ k < R.meets.length ∧ Q (.bl (mayB c (R.mt k))) H
theorem d_is_next (Z : BN mg) (A : At K mg "is_next" s_is_next ["rule", "crowd", "number"]) (D_is_whole : Def P w K mg base 1 "is_whole" ["thing"] [] spIsWhole) (D_may_be : Def P w K mg base 1 "may_be" ["crowd", "meeting"] [] spMayBe) :
    Def P w K mg base 2 "is_next" ["rule", "crowd", "number"] [] spIsNext := by
  refine A.def sc_is_next (fun vs H Q E h => ?_) (fun f cdv A outer s H vs Q E hr h => ?_)
  · obtain ⟨r, a, k, R, c, rfl, _⟩ := h
    rfl
  obtain ⟨r, a, k, R, c, rfl, hR, O, ha, hc, hk, q⟩ := h
  obtain ⟨st, m, y, ms, r0, r1, r2, r3, r4⟩ := hR.ex
  obtain ⟨p', hp', hm⟩ := mts_get r3 hk
  obtain ⟨b1, b2, b3, b4⟩ := O.mt _ (mt_mem hk)
  have hl : (ms.map V.ref).length = R.meets.length := by rw [List.length_map, mts_len r3]
  refine ⟨_, (pss_one (ps_ret (pe_and (pe_def D_is_whole hr rfl (pa_cons (pv 2) pa_nil)) (pe_and (pe_chain op_le op_lt pe_int (pv 2) (pe_callB call_len0 (by rfl) Z.len (by decide +kernel) (pa_cons (pe_ix ix_tup0 (pv 0) pe_int (fun _ _ => rfl)) pa_nil))) (pe_one (pe_def D_may_be hr rfl (pa_cons (pv 1) (pa_cons (pe_ix ix_tup0 (pe_ix ix_tup0 (pv 0) pe_int (fun _ _ => rfl)) (pv 2) (fun _ _ => rfl)) pa_nil)))))))), ?_⟩
  refine ⟨_, rfl, _, rfl, true, rfl, iteT ?_⟩
  refine ⟨_, rfl, _, _, rfl, rfl, true, congrArg V.bl (decide_eq_true (by omega)), iteT ?_⟩
  refine ⟨_, rfl, r, _, _, _, rfl, rfl, Rd.of r0, at_nat (j := 2) rfl, m, _, rfl, .inr (Rd.of r2), _, _, rfl, rfl, true, congrArg V.bl (decide_eq_true (by rw [hl]; omega)), iteT ?_⟩
  refine ⟨_, rfl, _, rfl, r, _, _, _, rfl, rfl, Rd.of r0, at_nat (j := 2) rfl, _, rfl, m, _, _, _, rfl, rfl, Rd.of r2, at_nat (j := k) (v := .ref p') (by rw [List.getElem?_map, hp']; rfl), ?_⟩
  exact ⟨a, p', c, R.mt k, rfl, ha, hm, by rw [hc]; exact b1, by rw [hc]; exact b2, q⟩
def spMet : Sp := fun vs H Q _ => ∃ (r a : Addr) (k : Nat) (R : Rule) (c : List Int), vs = [.ref r, .ref a, .int (k : Int)] ∧ RuleAt H r R ∧ R.Ok ∧ H a = some (iT c) ∧ c.length = R.n ∧ k ∈ canL R c ∧ ∀ H' p, Same H H' → H p = none → H' p = some (iT (behind c (R.mt k))) → Q (.ref p) H'
theorem d_met (Z : BN mg) (A : At K mg "met" s_met ["rule", "crowd", "number"]) (D_is_next : Def P w K mg base 2 "is_next" ["rule", "crowd", "number"] [] spIsNext) (D_crowd_behind : Def P w K mg base 1 "crowd_behind" ["crowd", "meeting"] [] spCrowdBehind) :
    Def P w K mg base 3 "met" ["rule", "crowd", "number"] [] spMet := by
  refine A.def sc_met (fun vs H Q E h => ?_) (fun f cdv A outer s H vs Q E hr h => ?_)
  · obtain ⟨r, a, k, R, c, rfl, _⟩ := h
    rfl
  obtain ⟨r, a, k, R, c, rfl, hR, O, ha, hc, hk, q⟩ := h
  obtain ⟨st, m, y, ms, r0, r1, r2, r3, r4⟩ := hR.ex
  obtain ⟨hk1, hk2⟩ := mem_canL.mp hk
  obtain ⟨p', hp', hm⟩ := mts_get r3 hk1
  refine ⟨_, (pss_cons (ps_if (pt_not (pt_val (pe_def D_is_next hr rfl (pa_cons (pv 0) (pa_cons (pv 1) (pa_cons (pv 2) pa_nil)))))) (pss_one (ps_never)) pss_nil)
    (pss_one (ps_ret (pe_def D_crowd_behind hr rfl (pa_cons (pv 1) (pa_cons (pe_ix ix_tup0 (pe_ix ix_tup0 (pv 0) pe_int (fun _ _ => rfl)) (pv 2) (fun _ _ => rfl)) pa_nil)))))), ?_⟩
  refine ⟨_, rfl, _, rfl, _, rfl, r, a, k, R, c, rfl, hR, O, ha, hc, hk1, _, rfl, ?_⟩
  rw [hk2]
  refine iteF ?_
  refine ⟨_, rfl, _, rfl, r, _, _, _, rfl, rfl, Rd.of r0, at_nat (j := 2) rfl, _, rfl, m, _, _, _, rfl, rfl, Rd.of r2, at_nat (j := k) (v := .ref p') (by rw [List.getElem?_map, hp']; rfl), ?_⟩
  exact ⟨a, p', c, R.mt k, rfl, ha, hm, by rw [hc]; exact O.mt _ (mt_mem hk1), q⟩
def spIsNumber : Sp := fun vs H Q _ => ∃ i, vs = [.int i] ∧ Q (.bl (decide (0 ≤ i))) H
theorem d_is_number (Z : BN mg) (A : At K mg "is_number" s_is_number ["thing"]) : Def P w K mg base 1 "is_number" ["thing"] [] spIsNumber := by
  refine A.def sc_is_number (fun vs H Q E h => ?_) (fun f cdv A outer s H vs Q E hr h => ?_)
  · obtain ⟨i, rfl, _⟩ := h
    rfl
  obtain ⟨i, rfl, q⟩ := h
  refine ⟨_, (pss_one (ps_ret (pe_and (pe_callB call_is3 (by rfl) Z.isinstance (by decide +kernel) (pa_cons (pv 0) (pa_cons (pe_bltn (v := .ty "int") (u := .type "int") (by rfl) Z.int (by decide +kernel) rfl) pa_nil))) (pe_and (pe_not (pe_callB call_is3 (by rfl) Z.isinstance (by decide +kernel) (pa_cons (pv 0) (pa_cons (pe_bltn (v := .ty "bool") (u := .type "bool") (by rfl) Z.bool (by decide +kernel) rfl) pa_nil)))) (pe_one (pe_cmpR op_ge (pv 0) pe_int (by first | exact nomark _ | rfl))))))), ?_⟩
  exact ⟨_, rfl, .inl ⟨i, rfl, true, rfl, iteT ⟨_, rfl, .inr (.inl ⟨i, rfl, false, rfl, true, rfl, iteT ⟨_, rfl, _, _, rfl, rfl, q⟩⟩)⟩⟩⟩
end
end PB
namespace PB
open PySem PySem.Spec PyProof.Rows L2
/-! ### what a crowd says -/
def wordsI (R : Rule) (c : List Int) (i : Nat) : List Bool := ((List.range i).filter fun j => decide (0 < c.getD j 0)).map R.say
theorem wordsI_succ (R : Rule) (c : List Int) (i : Nat) : wordsI R c (i + 1) = if 0 < c.getD i 0 then wordsI R c i ++ [R.say i] else wordsI R c i := by
  unfold wordsI
  rw [List.range_succ, List.filter_append, List.map_append]
  by_cases h : 0 < c.getD i 0
  · rw [if_pos h, List.filter_cons, if_pos (decide_eq_true h)]
    rfl
  · rw [if_neg h, List.filter_cons, if_neg (by simpa using h), List.filter_nil, List.map_nil, List.append_nil]
theorem wordsI_len (R : Rule) (c : List Int) (i : Nat) : (wordsI R c i).length ≤ i := by
  unfold wordsI
  rw [List.length_map]
  have := List.length_filter_le (fun j => decide (0 < c.getD j 0)) (List.range i)
  rwa [List.length_range] at this
def hasW (b : Bool) (ws : List Bool) : Bool := ws.any (· == b)
theorem inV_bl (b : Bool) (ws : List Bool) : inV (.bl b) (ws.map V.bl) = hasW b ws := by
  unfold inV hasW
  rw [List.any_map]
  rfl
theorem flat_bl (ws : List Bool) : (ws.map V.bl).all flatV = true := by
  rw [List.all_map, List.all_eq_true]
  intro x _
  rfl
def saidW (R : Rule) (c : List Int) : Str := if hasW false (wordsI R c c.length) = false then "yes" else if hasW true (wordsI R c c.length) = true then "both" else "no"
def wordOf (b : Bool) : Str := if b = true then "yes" else "no"
theorem wrong_has (R : Rule) (b : Bool) (c : List Int) : wrongB R b c = hasW (!b) (wordsI R c c.length) := by
  unfold wrongB hasW wordsI
  rw [List.any_map, List.any_filter]
  congr 1
  funext i
  congr 1
  show decide (R.say i ≠ b) = (R.say i == !b)
  cases R.say i <;> cases b <;> rfl
theorem has_some {R : Rule} {n : Nat} {h : Int} {c : List Int} (C : Cr n h c) (h1 : 1 ≤ h) : hasW false (wordsI R c c.length) = true ∨ hasW true (wordsI R c c.length) = true := by
  have ex : ∃ i, i < c.length ∧ 0 < c.getD i 0 := by
    have s := C.sum
    have p := C.pos
    clear C
    induction c generalizing h with
    | nil => simp at s; omega
    | cons a r ih =>
      by_cases ha : 0 < a
      · exact ⟨0, by simp, by simpa using ha⟩
      · have := p a List.mem_cons_self
        rw [List.sum_cons] at s
        obtain ⟨i, hi, e⟩ := ih (h := h) h1 (by omega) fun x hx => p x (List.mem_cons_of_mem _ hx)
        exact ⟨i + 1, by simpa using hi, by simpa using e⟩
  obtain ⟨i, hi, e⟩ := ex
  have hm : R.say i ∈ wordsI R c c.length := List.mem_map.mpr ⟨i, List.mem_filter.mpr ⟨List.mem_range.mpr hi, decide_eq_true e⟩, rfl⟩
  cases hs : R.say i with
  | false => exact .inl (List.any_eq_true.mpr ⟨_, hm, by rw [hs]; rfl⟩)
  | true => exact .inr (List.any_eq_true.mpr ⟨_, hm, by rw [hs]; rfl⟩)
theorem said_bools : ∀ F T b : Bool, (F = true ∨ T = true) → decide (V.str (if F = false then "yes" else if T = true then "both" else "no") = V.str (if b = true then "yes" else "no")) = !(if b = true then F else T) := by decide +kernel
theorem said_word {R : Rule} {n : Nat} {h : Int} {c : List Int} (C : Cr n h c) (h1 : 1 ≤ h) (b : Bool) : decide (V.str (saidW R c) = V.str (wordOf b)) = !wrongB R b c := by
  rw [wrong_has]
  have z := said_bools _ _ b (has_some (R := R) C h1)
  unfold saidW wordOf
  rw [z]
  cases b <;> rfl
section
variable {P : Program} {w : World} {K : PySem.W.Frag} {mg : Str → Option Value} {base : Heap}
def spSaid : Sp := fun vs H Q _ => ∃ (r a : Addr) (R : Rule) (c : List Int), vs = [.ref r, .ref a] ∧ RuleAt H r R ∧ R.Ok ∧ H a = some (iT c) ∧ c.length = R.n ∧ ∀ H', Same H H' → Q (.str (saidW R c)) H'
theorem d_said (Z : BN mg) (A : At K mg "said" s_said ["rule", "crowd"]) : Def P w K mg base 1 "said" ["rule", "crowd"] [] spSaid := by
  refine A.def sc_said (fun vs H Q E h => ?_) (fun f cdv A outer s H vs Q E hr h => ?_)
  · obtain ⟨r, a, R, c, rfl, _⟩ := h
    rfl
  obtain ⟨r, a, R, c, rfl, hR, O, ha, hc, q⟩ := h
  obtain ⟨st, m, y, ms, r0, r1, r2, r3, r4⟩ := hR.ex
  refine ⟨_, (pss_cons (ps_setLc (i := 2) (own := [("room", 3), ("many", 4)]) (g := (gTup0 2 (gCons (gName 3) (gCons (gName 4) gNil)))) rfl sc_said.nd rfl rfl (sw_true rfl rfl rfl (by decide +kernel)) (pi_enumT (by rfl) Z.enumerate (pa_cons (pv 1) pa_nil)) (blkOk_by (own := [("room", 3), ("many", 4)]) (N := N_said) (sc := defScope s_said) (by decide +kernel)) (fun _ _ _ _ _ => (pg_tup0 rfl (pgs_cons (pg_name (i := 3) sc_said.nd rfl (Or.inl rfl)) (pgs_cons (pg_name (i := 4) sc_said.nd rfl (Or.inl rfl)) pgs_nil)))) (fun _ _ _ _ _ => pts_one (pt_cmpR op_gt (pv 4) pe_int (by first | exact nomark _ | rfl))) (fun _ _ _ _ _ => (pe_ix ix_tup0 (pe_ix ix_tup0 (pv 0) pe_int (fun _ _ => rfl)) (pv 3) (fun _ _ => rfl))))
    (pss_cons (ps_if (pt_cmpR op_notIn0 pe_bl (pv 2) (by first | exact nomark _ | rfl)) (pss_one (ps_ret pe_str)) pss_nil)
    (pss_one (ps_ret (pe_ifExp (pt_cmpR op_in0 pe_bl (pv 2) (by first | exact nomark _ | rfl)) pe_str pe_str))))), ?_⟩
  refine ⟨_, rfl, a, _, rfl, SqT.of ha, fun D hD => lc_it walk_enumT (fun i H' => Same H H' ∧ H' D = some (.lst ((wordsI R c i).map V.bl)))
    ⟨same_new hD, upd_same⟩ (fun i H' _ h => SqT.of (h.1 _ _ ha)) ?_ ?_⟩
  · rintro i x H1 H1' hi ⟨sH, hD1⟩ ⟨T, x1, p, rfl, hT, rfl, e1, e2⟩
    have hi' : i < c.length := by rwa [List.length_map] at hi
    have e2 : (c.map V.int)[i]? = some p := e2
    rw [get_int hi'] at e2
    obtain rfl : V.int (c.getD i 0) = p := Option.some.inj e2
    obtain rfl : V.int (i : Int) = x1 := Option.some.inj e1
    have s1 : Same H (upd H1 T (.tup [.int (i : Int), .int (c.getD i 0)])) := same_upd sH (free_of sH hT)
    have nDT : D ≠ T := fun e => by rw [← e, hD1] at hT; cases hT
    refine ⟨T, _, rfl, Rd.of upd_same, rfl, _, _, rfl, _, _, rfl, rfl, rfl, _, rfl, _, _, rfl, rfl, _, rfl, ?_⟩
    refine ite2 (fun hb => ?_) (fun hb => ?_)
    · have hb' : 0 < c.getD i 0 := of_decide_eq_true hb
      refine ⟨_, rfl, r, _, _, _, rfl, rfl, Rd.of (s1 _ _ r0), at_nat (j := 3) rfl, _, rfl, y, _, _, _, rfl, rfl, Rd.of (s1 _ _ r4), at_bl (by rw [O.sl, ← hc]; exact hi'), _, by rw [upd_ne nDT]; exact hD1, ?_, same_upd s1 hD, ?_⟩
      · rw [List.length_map]
        exact len_lt (by have := wordsI_len R c i; have := O.n4; omega)
      · rw [upd_same, wordsI_succ, if_pos hb', List.map_append]
        rfl
    · have hb' : ¬ 0 < c.getD i 0 := fun z => hb (decide_eq_true z)
      refine ⟨s1, ?_⟩
      rw [upd_ne nDT, hD1, wordsI_succ, if_neg hb']
  · rintro H1 ⟨sH, hD1⟩
    rw [List.length_map] at hD1
    have q' := q H1 sH
    unfold saidW at q'
    refine ⟨_, rfl, D, _, rfl, .inl (Rd.of hD1), rfl, flat_bl _, _, rfl, ?_⟩
    rw [inV_bl]
    show if (!hasW false (wordsI R c c.length)) = true then _ else _
    cases e : hasW false (wordsI R c c.length) with
    | false =>
      rw [e, if_pos rfl] at q'
      exact iteT q'
    | true =>
      rw [e, if_neg (by decide)] at q'
      refine iteF ⟨_, rfl, D, _, rfl, .inl (Rd.of hD1), rfl, flat_bl _, _, rfl, ?_⟩
      rw [inV_bl]
      show if hasW true (wordsI R c c.length) = true then _ else _
      refine ite2 (fun e => ?_) (fun e => ?_)
      · rw [if_pos e] at q'
        exact q'
      · rw [if_neg e] at q'
        exact q'
end
end PB
namespace PB
open PySem PySem.Spec PyProof.Rows L2
/-- the top's numbers -/
structure GN (mg : Str → Option Value) : Prop where
  hands : ∃ t, mg "MOST_HANDS_rules" = some (.int 1000000 t)
  handsE : ∃ t, mg "MOST_HANDS_errchecker" = some (.int 60 t)
  rooms : ∃ t, mg "MOST_ROOMS" = some (.int 40 t)
theorem rep_zero (n : Nat) : (List.replicate n ([.int 0] : List V)).flatten = (List.replicate n (0 : Int)).map V.int := by
  induction n with
  | zero => rfl
  | succ n ih => rw [List.replicate_succ, List.flatten_cons, ih, List.replicate_succ]; rfl
theorem all_true {n : Nat} : (List.replicate n true).map V.bl = List.replicate n (V.bl true) := List.map_replicate
theorem hasF_rep (n : Nat) : inV (.bl false) ((List.replicate n true).map V.bl) = false := by
  unfold inV
  rw [List.any_map]
  induction n with
  | zero => rfl
  | succ n ih => rw [List.replicate_succ, List.any_cons, ih]; rfl
theorem flat_rep (n : Nat) : ((List.replicate n true).map V.bl).all flatV = true := by
  rw [List.all_map, List.all_eq_true]
  intro x _
  rfl
theorem rep_snoc (n : Nat) : (List.replicate n true).map V.bl ++ [V.bl true] = (List.replicate (n + 1) true).map V.bl := by
  rw [List.replicate_succ', List.map_append]
  rfl
section
variable {P : Program} {w : World} {K : PySem.W.Frag} {mg : Str → Option Value} {base : Heap}
def spBegun : Sp := fun vs H Q _ => ∃ (r a : Addr) (R : Rule) (cs : List Int), vs = [.ref r, .ref a] ∧ RuleAt H r R ∧ R.Ok ∧ H a = some (iT cs) ∧ cs.length = R.starts.length ∧ ∀ H' p, Same H H' → H p = none → H' p = some (iT (beginC R cs)) → Q (.ref p) H'
theorem d_begun (Z : BN mg) (A : At K mg "begun" s_begun ["rule", "counts"]) : Def P w K mg base 1 "begun" ["rule", "counts"] [] spBegun := by
  refine A.def sc_begun (fun vs H Q E h => ?_) (fun f cdv A outer s H vs Q E hr h => ?_)
  · obtain ⟨r, a, R, cs, rfl, _⟩ := h
    rfl
  obtain ⟨r, a, R, cs, rfl, hR, O, ha, hc, q⟩ := h
  obtain ⟨st, m, y, ms, r0, r1, r2, r3, r4⟩ := hR.ex
  have n4 := O.n4
  refine ⟨_, (pss_cons (ps_set (i := 2) sc_begun.nd rfl (Or.inl rfl) (pe_op op_rep (pe_lst (pa_cons pe_int pa_nil)) (pe_ix ix_tup0 (pv 0) pe_int (fun _ _ => rfl))))
    (pss_cons (ps_for PassesOwn.never rfl (pi_enumT (by rfl) Z.enumerate (pa_cons (pv 1) pa_nil)) (pg_tup0 rfl (pgs_cons (pg_name (i := 3) sc_begun.nd rfl (Or.inl rfl)) (pgs_cons (pg_name (i := 4) sc_begun.nd rfl (Or.inl rfl)) pgs_nil)))
      (pss_cons (ps_set (i := 5) sc_begun.nd rfl (Or.inl rfl) (pe_ix ix_tup0 (pe_ix ix_tup0 (pv 0) pe_int (fun _ _ => rfl)) (pv 3) (fun _ _ => rfl)))
      (pss_one (ps_asg (pe_op op_add (pe_ix ix_list0 (pv 2) (pv 5) (fun _ _ => rfl)) (pv 4)) (pg_sub (pv 2) (pv 5) set_list)))))
    (pss_one (ps_ret (pe_callTy call_tuple0 (by rfl) Z.tuple (by decide +kernel) (pa_cons (pv 2) pa_nil)))))), ?_⟩
  refine ⟨by decide, fun l0 hl0 => ?_⟩
  have s0 : Same H (upd H l0 (.lst [.int 0])) := same_new hl0
  refine ⟨_, rfl, r, _, _, _, rfl, rfl, Rd.of (s0 _ _ r0), at_nat (j := 0) rfl, l0, _, _, rfl, rfl, upd_same, by omega, by omega, ?_, fun l hl => ?_⟩
  · show 1 * (R.n : Int).toNat ≤ sizeLine
    exact small_le (by omega)
  have hlH : H l = none := free_of s0 hl
  have s1 := same_upd (o := .lst (List.replicate (R.n : Int).toNat ([.int 0] : List V)).flatten) s0 hlH
  refine ⟨_, rfl, a, _, rfl, SqT.of (s1 _ _ ha), for_it walk_enumT (fun i σ H' => ∃ v3 v4 v5, σ = [some (.ref r), some (.ref a), some (.ref l), v3, v4, v5] ∧ Same H H' ∧ H' l = some (.lst ((beginI R cs i).map V.int)))
    ⟨none, none, none, rfl, s1, ?_⟩ (fun i σ H' _ ⟨_, _, _, _, h, _⟩ => SqT.of (h _ _ ha)) ?_ ?_⟩
  · rw [upd_same]
    show some (HO.lst (List.replicate R.n ([.int 0] : List V)).flatten) = _
    rw [rep_zero]
    rfl
  · rintro i x σ H1 H1' hi ⟨v3, v4, v5, rfl, sH, hl1⟩ ⟨T, x1, p, rfl, hT, rfl, e1, e2⟩
    have hi' : i < cs.length := by rwa [List.length_map] at hi
    have e2 : (cs.map V.int)[i]? = some p := e2
    rw [get_int hi'] at e2
    obtain rfl : V.int (cs.getD i 0) = p := Option.some.inj e2
    obtain rfl : V.int (i : Int) = x1 := Option.some.inj e1
    have s2 : Same H (upd H1 T (.tup [.int (i : Int), .int (cs.getD i 0)])) := same_upd sH (free_of sH hT)
    have nlT : l ≠ T := fun e => by rw [← e, hl1] at hT; cases hT
    have hl2 : upd H1 T (.tup [.int (i : Int), .int (cs.getD i 0)]) l = some (.lst ((beginI R cs i).map V.int)) := by rw [upd_ne nlT]; exact hl1
    have hb : R.starts.getD i 0 < (beginI R cs i).length := by rw [beginI_len]; exact starts_lt O (by omega)
    refine ⟨T, _, rfl, Rd.of upd_same, rfl, _, _, rfl, _, _, rfl, rfl, ?_⟩
    refine ⟨_, rfl, r, _, _, _, rfl, rfl, Rd.of (s2 _ _ r0), at_nat (j := 1) rfl, _, rfl, st, _, _, _, rfl, rfl, Rd.of (s2 _ _ r1), at_natV (by omega), ?_⟩
    refine ⟨_, rfl, _, rfl, l, _, _, _, rfl, rfl, Rd.of hl2, at_int hb, _, rfl, _, _, rfl, rfl, _, rfl, _, rfl, l, _, _, _, rfl, rfl, hl2, ixN_nat (by rw [List.length_map]; exact hb), ?_⟩
    refine ⟨_, _, _, rfl, same_upd s2 hlH, ?_⟩
    rw [upd_same, beginI_succ, ← map_bump]
  · rintro σ H1 ⟨v3, v4, v5, rfl, sH, hl1⟩
    rw [List.length_map] at hl1
    refine ⟨_, rfl, l, _, rfl, Rd.of hl1, fun p hp => ?_⟩
    exact q _ p (same_upd sH (free_of sH hp)) (free_of sH hp) upd_same
def spIsCounts : Sp := fun vs H Q _ => ∃ (a : Addr) (cs : List Int), vs = [.int (cs.length : Int), .ref a] ∧ H a = some (iT cs) ∧ cs.length ≤ 100 ∧ (∀ x ∈ cs, 0 ≤ x ∧ x ≤ 1000000) ∧ 0 < cs.sum ∧ ∀ H', Same H H' → Q (.bl true) H'
theorem d_is_counts (Z : BN mg) (T : GN mg) (A : At K mg "is_counts" s_is_counts ["sorts", "thing"]) (D_is_from : Def P w K mg base 2 "is_from" ["thing", "low", "high"] [] spIsFrom) : Def P w K mg base 3 "is_counts" ["sorts", "thing"] [] spIsCounts := by
  refine A.def sc_is_counts (fun vs H Q E h => ?_) (fun f cdv A outer s H vs Q E hr h => ?_)
  · obtain ⟨a, cs, rfl, _⟩ := h
    rfl
  obtain ⟨a, cs, rfl, ha, h100, hx, hs, q⟩ := h
  obtain ⟨tk, g_MOST_HANDS_rules⟩ := T.hands
  refine ⟨_, (pss_cons (ps_if (PW.pt (pw_or (pt_not (pt_val (pe_callB call_is3 (by rfl) Z.isinstance (by decide +kernel) (pa_cons (pv 1) (pa_cons (pe_bltn (v := .ty "tuple") (u := .type "tuple") (by rfl) Z.tuple (by decide +kernel) rfl) pa_nil))))) (pw_or1 (pt_cmpR op_ne (pe_callB call_len0 (by rfl) Z.len (by decide +kernel) (pa_cons (pv 1) pa_nil)) (pv 0) (by first | exact nomark _ | rfl))))) (pss_one (ps_ret pe_bl)) pss_nil)
    (pss_one (ps_ret (pe_and (pe_cmpR op_notIn0 pe_bl (pe_lc (own := [("one", 2)]) (g := (gName 2)) rfl sc_is_counts.nd (pi_tup (pv 1)) (blkOk_by (own := [("one", 2)]) (N := N_is_counts) (sc := defScope s_is_counts) (by decide +kernel)) (fun _ _ _ _ _ => (pg_name (i := 2) sc_is_counts.nd rfl (Or.inl rfl))) (fun _ _ _ _ _ => pts_nil) (fun _ _ _ _ _ => (pe_def D_is_from hr rfl (pa_cons (pv 2) (pa_cons pe_int (pa_cons (pe_glob (v := .int 1000000) rfl g_MOST_HANDS_rules ⟨_, rfl⟩) pa_nil)))))) (by first | exact nomark _ | rfl)) (pe_one (pe_cmpR op_gt (pe_callB (cr_sumT rfl) (by rfl) Z.sum (by decide +kernel) (pa_cons (pv 1) pa_nil)) pe_int (by first | exact nomark _ | rfl))))))), ?_⟩
  refine ⟨_, rfl, .inr (.inr ⟨a, _, rfl, Rd.of ha, true, rfl, ?_⟩)⟩
  refine iteF ⟨_, rfl, a, _, rfl, .inr (Rd.of ha), _, rfl, rfl, _, rfl, ?_⟩
  rw [show (!decide (V.int (((cs.map V.int).length : Nat) : Int) = V.int (cs.length : Int))) = false from by rw [decide_eq_true (by rw [List.length_map])]; rfl]
  refine iteF ?_
  refine ⟨_, rfl, a, rfl, ⟨_, SqT.of ha⟩, fun D hD => lc_tup (K := K) (a := a) (xs := cs.map V.int) (fun i H' => Same H H' ∧ H' D = some (.lst ((List.replicate i true).map V.bl)))
    ⟨same_new hD, upd_same⟩ (fun i H' _ h => SqT.of (h.1 _ _ ha)) ?_ ?_⟩
  · rintro i x H1 hxi ⟨sH, hD1⟩
    have hi : i < cs.length := by
      have := (List.getElem?_eq_some_iff.mp hxi).1
      rwa [List.length_map] at this
    rw [get_int hi] at hxi
    obtain rfl : V.int (cs.getD i 0) = x := Option.some.inj hxi
    have hm : cs.getD i 0 ∈ cs := by
      rw [List.getD_eq_getElem?_getD, List.getElem?_eq_getElem hi]
      exact List.getElem_mem hi
    obtain ⟨x1, x2⟩ := hx _ hm
    refine ⟨rfl, _, rfl, _, _, _, rfl, ?_⟩
    dsimp only
    rw [decide_eq_true x1, decide_eq_true x2]
    refine ⟨_, hD1, ?_, same_upd sH hD, ?_⟩
    · rw [List.length_map, List.length_replicate]
      exact len_lt (by omega)
    · rw [upd_same]
      exact congrArg (fun z => some (HO.lst z)) (rep_snoc i)
  · rintro H1 ⟨sH, hD1⟩
    refine ⟨D, _, rfl, .inl (Rd.of hD1), rfl, flat_rep _, ?_⟩
    rw [hasF_rep]
    refine ⟨true, rfl, iteT ⟨_, rfl, a, cs, rfl, sH _ _ ha, _, _, rfl, rfl, ?_⟩⟩
    show Q (V.bl (decide (0 < _))) _
    rw [decide_eq_true hs]
    exact q _ sH
def spIsCrowd : Sp := fun vs H Q _ => ∃ (r a : Addr) (R : Rule) (c : List Int), vs = [.ref r, .ref a] ∧ RuleAt H r R ∧ R.Ok ∧ H a = some (iT c) ∧ c.length = R.n ∧ (∀ x ∈ c, 0 ≤ x) ∧ 0 < c.sum ∧ ∀ H', Same H H' → Q (.bl true) H'
theorem d_is_crowd (Z : BN mg) (A : At K mg "is_crowd" s_is_crowd ["rule", "thing"]) (D_is_whole : Def P w K mg base 1 "is_whole" ["thing"] [] spIsWhole) : Def P w K mg base 2 "is_crowd" ["rule", "thing"] [] spIsCrowd := by
  refine A.def sc_is_crowd (fun vs H Q E h => ?_) (fun f cdv A outer s H vs Q E hr h => ?_)
  · obtain ⟨r, a, R, c, rfl, _⟩ := h
    rfl
  obtain ⟨r, a, R, c, rfl, hR, O, ha, hc, hx, hs, q⟩ := h
  obtain ⟨st, m, y, ms, r0, r1, r2, r3, r4⟩ := hR.ex
  have n4 := O.n4
  refine ⟨_, (pss_cons (ps_if (PW.pt (pw_or (pt_not (pt_val (pe_callB call_is3 (by rfl) Z.isinstance (by decide +kernel) (pa_cons (pv 1) (pa_cons (pe_bltn (v := .ty "tuple") (u := .type "tuple") (by rfl) Z.tuple (by decide +kernel) rfl) pa_nil))))) (pw_or1 (pt_cmpR op_ne (pe_callB call_len0 (by rfl) Z.len (by decide +kernel) (pa_cons (pv 1) pa_nil)) (pe_ix ix_tup0 (pv 0) pe_int (fun _ _ => rfl)) (by first | exact nomark _ | rfl))))) (pss_one (ps_ret pe_bl)) pss_nil)
    (pss_cons (ps_if (pt_cmpR op_in0 pe_bl (pe_lc (own := [("one", 2)]) (g := (gName 2)) rfl sc_is_crowd.nd (pi_tup (pv 1)) (blkOk_by (own := [("one", 2)]) (N := N_is_crowd) (sc := defScope s_is_crowd) (by decide +kernel)) (fun _ _ _ _ _ => (pg_name (i := 2) sc_is_crowd.nd rfl (Or.inl rfl))) (fun _ _ _ _ _ => pts_nil) (fun _ _ _ _ _ => (pe_and (pe_def D_is_whole hr rfl (pa_cons (pv 2) pa_nil)) (pe_one (pe_cmpR op_ge (pv 2) pe_int (by first | exact nomark _ | rfl)))))) (by first | exact nomark _ | rfl)) (pss_one (ps_ret pe_bl)) pss_nil)
    (pss_one (ps_ret (pe_cmpR op_gt (pe_callB (cr_sumT rfl) (by rfl) Z.sum (by decide +kernel) (pa_cons (pv 1) pa_nil)) pe_int (by first | exact nomark _ | rfl)))))), ?_⟩
  refine ⟨_, rfl, .inr (.inr ⟨a, _, rfl, Rd.of ha, true, rfl, ?_⟩)⟩
  refine iteF ⟨_, rfl, a, _, rfl, .inr (Rd.of ha), _, rfl, r, _, _, _, rfl, rfl, Rd.of r0, at_nat (j := 0) rfl, rfl, _, rfl, ?_⟩
  rw [show (!decide (V.int (((c.map V.int).length : Nat) : Int) = V.int (R.n : Int))) = false from by rw [decide_eq_true (by rw [List.length_map, hc])]; rfl]
  refine iteF ?_
  refine ⟨_, rfl, a, rfl, ⟨_, SqT.of ha⟩, fun D hD => lc_tup (K := K) (a := a) (xs := c.map V.int) (fun i H' => Same H H' ∧ H' D = some (.lst ((List.replicate i true).map V.bl)))
    ⟨same_new hD, upd_same⟩ (fun i H' _ h => SqT.of (h.1 _ _ ha)) ?_ ?_⟩
  · rintro i x H1 hxi ⟨sH, hD1⟩
    have hi : i < c.length := by
      have := (List.getElem?_eq_some_iff.mp hxi).1
      rwa [List.length_map] at this
    rw [get_int hi] at hxi
    obtain rfl : V.int (c.getD i 0) = x := Option.some.inj hxi
    have x1 := pos_get hx i
    refine ⟨rfl, _, rfl, _, rfl, true, rfl, iteT ⟨_, rfl, _, _, rfl, rfl, ?_⟩⟩
    dsimp only
    rw [decide_eq_true x1]
    refine ⟨_, hD1, ?_, same_upd sH hD, ?_⟩
    · rw [List.length_map, List.length_replicate]
      exact len_lt (by omega)
    · rw [upd_same]
      exact congrArg (fun z => some (HO.lst z)) (rep_snoc i)
  · rintro H1 ⟨sH, hD1⟩
    refine ⟨D, _, rfl, .inl (Rd.of hD1), rfl, flat_rep _, ?_⟩
    rw [hasF_rep]
    refine ⟨false, rfl, iteF ⟨_, rfl, a, c, rfl, sH _ _ ha, _, _, rfl, rfl, ?_⟩⟩
    show Q (V.bl (decide (0 < _))) _
    rw [decide_eq_true hs]
    exact q _ sH
end
end PB
namespace PB
open PySem PySem.Spec PyProof.Rows L2
/-! ### while the graph is made -/
abbrev seenV : List Int → V := fun _ => .bl true
structure GI (H0 : Hp) (R : Rule) (c : List Int) (fa la sa : Addr) (fs : List (List Int)) (es : List Addr) (ls : List (List Int)) (lt : List Addr) (H : Hp) : Prop where
  same : Same H0 H
  line : H la = some (.lst (lt.map V.ref))
  tups : TupsAt H lt ls
  seen : H sa = some (.dT (fkv seenV ls))
  found : H fa = some (.dT (gkv fs es))
  edges : Paired (fun k e => EdgeAt H e R k ∧ e ≠ la) fs es
  nd : ls.Nodup
  come : ∀ k ∈ ls, Comes R c k
  ne : sa ≠ fa
theorem tups_mono {H H' : Hp} {ts : List Addr} {l : List (List Int)} (h : TupsAt H ts l) (t : Tst H H') : TupsAt H' ts l := paired_mono h fun _ _ z => t _ _ z
theorem GI.mono {H0 H H' : Hp} {R : Rule} {c : List Int} {fa la sa : Addr} {fs : List (List Int)} {es : List Addr} {ls : List (List Int)} {lt : List Addr} (G : GI H0 R c fa la sa fs es ls lt H) (s : Same H H') : GI H0 R c fa la sa fs es ls lt H' :=
  ⟨G.same.trans s, s _ _ G.line, tups_mono G.tups (tst s), s _ _ G.seen, s _ _ G.found, paired_mono G.edges fun k e z => ⟨z.1.mono (tst s) fun xs h => s _ _ h, z.2⟩, G.nd, G.come, G.ne⟩
theorem GI.push {H0 H : Hp} {R : Rule} {c d : List Int} {fa la sa b : Addr} {fs : List (List Int)} {es : List Addr} {ls : List (List Int)} {lt : List Addr} (G : GI H0 R c fa la sa fs es ls lt H) (hb : H b = some (iT d)) (hd : d ∉ ls) (hc : Comes R c d)
    (h1 : H0 la = none) (h2 : H0 sa = none) : GI H0 R c fa la sa fs es (ls ++ [d]) (lt ++ [b]) (upd (upd H sa (.dT (fkv seenV (ls ++ [d])))) la (.lst (lt.map V.ref ++ [.ref b]))) := by
  have nls : la ≠ sa := ne_kind G.line G.seen (fun z => nomatch z)
  have nlf : fa ≠ la := ne_kind G.found G.line (fun z => nomatch z)
  have t1 : Tst H (upd H sa (.dT (fkv seenV (ls ++ [d])))) := tst_dT G.seen
  have l1 : upd H sa (.dT (fkv seenV (ls ++ [d]))) la = some (.lst (lt.map V.ref)) := by rw [upd_ne nls]; exact G.line
  have t2 := t1.trans (tst_lst (o := .lst (lt.map V.ref ++ [.ref b])) l1)
  refine ⟨same_upd (same_upd G.same h2) h1, ?_, tups_snoc (tups_mono G.tups t2) (t2 _ _ hb), ?_, ?_, paired_mono G.edges fun k e z => ⟨z.1.mono t2 fun xs h => ?_, z.2⟩, nd_snoc' G.nd hd, fun k hk => ?_, G.ne⟩
  · rw [upd_same, List.map_append]
    rfl
  · rw [upd_ne nls.symm, upd_same]
  · rw [upd_ne nlf, upd_ne G.ne.symm]
    exact G.found
  · rw [upd_ne z.2, upd_ne (ne_kind h G.seen (fun z => nomatch z))]
    exact h
  · rcases List.mem_append.mp hk with q | q
    · exact G.come k q
    · rw [List.mem_singleton.mp q]
      exact hc
theorem GI.edge {H0 H : Hp} {R : Rule} {c k : List Int} {fa la sa e : Addr} {fs : List (List Int)} {es : List Addr} {ls : List (List Int)} {lt : List Addr} (G : GI H0 R c fa la sa fs es ls lt H) (he : EdgeAt H e R k) (hel : e ≠ la) (hk : k ∉ fs) (h1 : H0 fa = none) :
    GI H0 R c fa la sa (fs ++ [k]) (es ++ [e]) ls lt (upd H fa (.dT (putK (gkv fs es) (ck k) (.ref e)))) := by
  have nlf : la ≠ fa := ne_kind G.line G.found (fun z => nomatch z)
  have t1 : Tst H (upd H fa (.dT (putK (gkv fs es) (ck k) (.ref e)))) := tst_dT G.found
  have lk : ∀ {x : Addr} {xs : List V}, H x = some (.lst xs) → upd H fa (.dT (putK (gkv fs es) (ck k) (.ref e))) x = some (.lst xs) := fun {x xs} h => by
    rw [upd_ne (ne_kind h G.found (fun z => nomatch z))]
    exact h
  refine ⟨same_upd G.same h1, lk G.line, tups_mono G.tups t1, by rw [upd_ne G.ne]; exact G.seen, ?_, ?_, G.nd, G.come, G.ne⟩
  · rw [upd_same, gkv_put G.edges hk]
  · exact paired_snoc (F := fun k e => EdgeAt _ e R k ∧ e ≠ la) (paired_mono G.edges fun k e z => ⟨z.1.mono t1 fun xs h => lk h, z.2⟩) ⟨he.mono t1 fun xs h => lk h, hel⟩
theorem prefix_get {fs t : List (List Int)} {i : Nat} (h : i = fs.length) (hi : i < (fs ++ t).length) : ∃ k t', t = k :: t' ∧ (fs ++ t)[i]? = some k := by
  cases t with
  | nil => rw [List.append_nil] at hi; omega
  | cons k t' => exact ⟨k, t', rfl, by rw [h]; simp⟩
section
variable {P : Program} {w : World} {K : PySem.W.Frag} {mg : Str → Option Value} {base : Heap}
/-- a crowd of at most four hands in at most four rooms -/
structure Few (R : Rule) (c : List Int) : Prop where
  ok : R.Ok
  ex : ∃ h : Int, 1 ≤ h ∧ h ≤ 4 ∧ Cr R.n h c
theorem Few.len {R : Rule} {c : List Int} (F : Few R c) : c.length = R.n := let ⟨_, _, _, C⟩ := F.ex; C.len
theorem Few.comes {R : Rule} {c d : List Int} (F : Few R c) (h : Comes R c d) : Few R d := let ⟨x, h1, h2, C⟩ := F.ex; ⟨F.ok, x, h1, h2, C.comes F.ok h⟩
theorem Few.few {R : Rule} {c : List Int} {l : List (List Int)} (F : Few R c) (nd : l.Nodup) (h : ∀ k ∈ l, Comes R c k) : l.length ≤ 35 := by
  obtain ⟨x, h1, h2, C⟩ := F.ex
  exact few_cr F.ok.n4 (by omega) h2 nd fun k hk => C.comes F.ok (h k hk)
def spGraphOf : Sp := fun vs H Q _ => ∃ (r a : Addr) (R : Rule) (c : List Int), vs = [.ref r, .ref a, .int 1000] ∧ RuleAt H r R ∧ Few R c ∧ H a = some (iT c) ∧
  ∀ H' g ks, Same H H' → H g = none → GraphAt H' g R ks → ks.head? = some c → AllOf R c ks → Q (.ref g) H'
theorem d_graph_of (Z : BN mg) (A : At K mg "graph_of" s_graph_of ["rule", "crowd", "limit"]) (D_can : Def P w K mg base 2 "can" ["rule", "crowd"] [] spCan) (D_met : Def P w K mg base 3 "met" ["rule", "crowd", "number"] [] spMet) :
    Def P w K mg base 4 "graph_of" ["rule", "crowd", "limit"] [] spGraphOf := by
  refine A.def sc_graph_of (fun vs H Q E h => ?_) (fun f cdv A outer s H vs Q E hr h => ?_)
  · obtain ⟨r, a, R, c, rfl, _⟩ := h
    rfl
  obtain ⟨r, a, R, c, rfl, hR, F, ha, q⟩ := h
  have hu := hu_of hr
  refine ⟨_, (pss_cons (ps_set (i := 3) sc_graph_of.nd rfl (Or.inl rfl) pe_dnewT)
    (pss_cons (ps_set (i := 4) sc_graph_of.nd rfl (Or.inl rfl) (pe_lst (pa_cons (pv 1) pa_nil)))
    (pss_cons (ps_set (i := 5) sc_graph_of.nd rfl (Or.inl rfl) (pe_dispT hu (pv 1) pe_bl))
    (pss_cons (ps_while PassesOwn.never (pt_cmpR op_lt (pe_callB call_len_dT (by rfl) Z.len (by decide +kernel) (pa_cons (pv 3) pa_nil)) (pe_callB call_len0 (by rfl) Z.len (by decide +kernel) (pa_cons (pv 4) pa_nil)) (by first | exact nomark _ | rfl)) (pss_cons (ps_set (i := 6) sc_graph_of.nd rfl (Or.inr rfl) (pe_ix ix_list0 (pv 4) (pe_callB call_len_dT (by rfl) Z.len (by decide +kernel) (pa_cons (pv 3) pa_nil)) (fun _ _ => rfl)))
      (pss_cons (ps_dput hu (pv 3) (pv 6) (pe_lc (own := [("number", 7)]) (g := (gName 7)) rfl sc_graph_of.nd (pi_list (pe_def D_can hr rfl (pa_cons (pv 0) (pa_cons (pv 6) pa_nil)))) (blkOk_by (own := [("number", 7)]) (N := N_graph_of) (sc := defScope s_graph_of) (by decide +kernel)) (fun _ _ _ _ _ => (pg_name (i := 7) sc_graph_of.nd rfl (Or.inl rfl))) (fun _ _ _ _ _ => pts_nil) (fun _ _ _ _ _ => (pe_tup (pa_cons (pv 7) (pa_cons (pe_def D_met hr rfl (pa_cons (pv 0) (pa_cons (pv 6) (pa_cons (pv 7) pa_nil)))) pa_nil))))) rfl)
      (pss_cons (ps_for PassesOwn.never rfl (pi_list (pe_dget hu (pv 3) (pv 6) (fun _ _ => rfl))) (pg_tup0 rfl (pgs_cons (pg_name (i := 7) sc_graph_of.nd rfl (Or.inl rfl)) (pgs_cons (pg_name (i := 8) sc_graph_of.nd rfl (Or.inl rfl)) pgs_nil)))
        (pss_one (ps_if (pt_cmp (pc_dnotin hu (pv 8) (pv 5))) (pss_cons (ps_dput hu (pv 5) (pv 8) pe_bl rfl)
          (pss_one (ps_expr (pe_bm PySem.F.plainAttrs_list PySem.F.slot_list_append PySem.F.type_list_append mt_append (pv 4) (pa_cons (pv 8) pa_nil))))) pss_nil)))
      (pss_one (ps_if (pt_cmpR op_gt (pe_callB call_len0 (by rfl) Z.len (by decide +kernel) (pa_cons (pv 4) pa_nil)) (pv 2) (by first | exact nomark _ | rfl)) (pss_one (ps_never)) pss_nil))))))
    (pss_one (ps_ret (pv 3))))))), ?_⟩
  intro fa hfa
  refine ⟨_, rfl, (by show 1 ≤ sizeLine; decide), fun la hla => ?_⟩
  have s1 : Same H (upd H fa (.dT [])) := same_new hfa
  have hlaH := free_of s1 hla
  have s2 := same_upd (o := .lst [.ref a]) s1 hlaH
  intro sa hsa
  have hsaH := free_of s2 hsa
  have s3 := same_upd (o := .dT []) s2 hsaH
  refine ⟨_, rfl, upd_same, a, ck c, rfl, by rw [ck_kV]; exact s3 _ _ ha, ?_⟩
  have nla : la ≠ fa := fun e => by rw [e, upd_same] at hla; cases hla
  have nsl : sa ≠ la := fun e => by rw [e, upd_same] at hsa; cases hsa
  have nsf : sa ≠ fa := fun e => by rw [e, upd_ne nla.symm, upd_same] at hsa; cases hsa
  refine ⟨fun m σ H' => ∃ fs es t lt v6 v7 v8, σ = [some (.ref r), some (.ref a), some (.int 1000), some (.ref fa), some (.ref la), some (.ref sa), v6, v7, v8] ∧ GI H R c fa la sa fs es (fs ++ t) lt H' ∧ (fs ++ t).head? = some c ∧
    (∀ k ∈ fs, ∀ d ∈ nexts R k, d ∈ fs ++ t) ∧ m + fs.length = 36, ⟨36, [], [], [c], [a], none, none, none, rfl, ?_, rfl, fun k hk => (by cases hk), rfl⟩, ?_⟩
  · refine ⟨by rw [upd_upd]; exact same_upd s2 hsaH, ?_, .cons ?_ .nil, by rw [upd_same]; rfl, ?_, .nil, by simp, fun k hk => ?_, nsf⟩
    · rw [upd_upd, upd_ne nsl.symm, upd_same]
      rfl
    · rw [upd_upd]
      exact same_upd s2 hsaH _ _ ha
    · rw [upd_upd, upd_ne nsf.symm, upd_ne nla.symm, upd_same]
      rfl
    · rw [List.mem_singleton.mp hk]
      exact .refl
  rintro m σ H1 ⟨fs, es, t, lt, v6, v7, v8, rfl, G, hh, cl, hm⟩
  have l35 := F.few G.nd G.come
  have hlt : lt.length = (fs ++ t).length := Paired.length G.tups
  refine ⟨_, rfl, fa, _, rfl, G.found, _, rfl, la, _, rfl, .inl (Rd.of G.line), _, _, rfl, rfl, _, rfl, ?_⟩
  have eg : (gkv fs es).length = fs.length := gkv_len G.edges
  refine ite2 (fun hc => ?_) (fun hc => ?_)
  · -- a turn
    have hc' : (((gkv fs es).length : Nat) : Int) < (((lt.map V.ref).length : Nat) : Int) := of_decide_eq_true hc
    rw [eg, List.length_map, hlt] at hc'
    have hfl : fs.length < (fs ++ t).length := by omega
    obtain ⟨k, t', rfl, hk⟩ := prefix_get rfl hfl
    obtain ⟨b, hb, hbk⟩ := paired_get (F := fun t ns => H1 t = some (.tup (ns.map V.int))) G.tups hk
    have hkm : k ∈ fs ++ k :: t' := List.mem_append_right _ List.mem_cons_self
    have hkf : k ∉ fs := fun z => by
      have := List.nodup_append.mp G.nd
      exact this.2.2 k z k List.mem_cons_self rfl
    have Fk : Few R k := F.comes (G.come k hkm)
    refine ⟨fun σ' H' => ∃ fs es t lt v6 v7 v8, σ' = [some (.ref r), some (.ref a), some (.int 1000), some (.ref fa), some (.ref la), some (.ref sa), v6, v7, v8] ∧ GI H R c fa la sa fs es (fs ++ t) lt H' ∧ (fs ++ t).head? = some c ∧
      (∀ k ∈ fs, ∀ d ∈ nexts R k, d ∈ fs ++ t) ∧ (m - 1) + fs.length = 36, ?_, ?_⟩
    · rintro σ' H' ⟨fs', es', t'', lt', w6, w7, w8, e, g, h1, h2, h3⟩
      exact ⟨m - 1, by omega, fs', es', t'', lt', w6, w7, w8, e, g, h1, h2, h3⟩
    refine ⟨_, rfl, _, rfl, fa, _, rfl, G.found, la, _, _, _, rfl, rfl, Rd.of G.line, (by rw [eg]; exact at_nat (v := .ref b) (by rw [List.getElem?_map, hb]; rfl)), ?_⟩
    -- found[here] = [..]
    refine ⟨_, rfl, _, rfl, r, b, R, k, rfl, hR.mono (tst G.same), F.ok, hbk, Fk.len, fun H2 p sH2 np hp => ?_⟩
    have G2 := G.mono sH2
    refine ⟨p, rfl, ⟨_, SqL.of hp⟩, fun D hD => lc_it walk_list (fun i H' => Same H2 H' ∧ ∃ ts, H' D = some (.lst (ts.map V.ref)) ∧ PairsAt H' ts ((succs R k).take i))
      ⟨same_new hD, [], upd_same, .nil⟩ (fun i H' _ h => SqL.of (h.1 _ _ hp)) ?_ ?_⟩
    · rintro i x H3 H3' hi ⟨sH3, ts, hD3, hts⟩ ⟨rfl, hx⟩
      have hi' : i < (canL R k).length := by rwa [List.length_map] at hi
      rw [get_nat hi'] at hx
      obtain rfl := Option.some.inj hx
      have hmem : (canL R k).getD i 0 ∈ canL R k := by
        rw [List.getD_eq_getElem?_getD, List.getElem?_eq_getElem hi']
        exact List.getElem_mem hi'
      have G3 := G2.mono sH3
      refine ⟨rfl, _, rfl, _, rfl, _, rfl, _, rfl, r, b, _, R, k, rfl, hR.mono (tst G3.same), F.ok, tst (sH2.trans sH3) _ _ hbk, Fk.len, hmem, fun H4 u sH4 nu hu4 => ?_⟩
      refine ⟨(by show 2 ≤ sizeLine; decide), fun T hT => ?_⟩
      have s5 := same_new (o := .tup [.int (((canL R k).getD i 0 : Nat) : Int), .ref u]) hT
      have nDT : D ≠ T := fun e => by rw [← e, sH4 _ _ hD3] at hT; cases hT
      have hD5 : upd H4 T (.tup [.int (((canL R k).getD i 0 : Nat) : Int), .ref u]) D = some (.lst (ts.map V.ref)) := s5 _ _ (sH4 _ _ hD3)
      have nD2 : H2 D = none := hD
      refine ⟨_, hD5, ?_, same_upd ((sH3.trans sH4).trans s5) nD2, ts ++ [T], by rw [upd_same, List.map_append]; rfl, ?_⟩
      · rw [List.length_map]
        have := Paired.length hts
        rw [List.length_take] at this
        have c1 : (canL R k).length ≤ R.meets.length := canI_len R k R.meets.length
        have c2 := F.ok.ml
        exact len_lt (by omega)
      · have e1 : (succs R k).take (i + 1) = (succs R k).take i ++ [((canL R k).getD i 0, behind k (R.mt ((canL R k).getD i 0)))] := by
          rw [List.take_add_one]
          congr 1
          unfold succs
          rw [List.getElem?_map, List.getElem?_eq_getElem hi', List.getD_eq_getElem?_getD, List.getElem?_eq_getElem hi']
          rfl
        rw [e1]
        have t6 : Tst H3' (upd (upd H4 T (.tup [.int (((canL R k).getD i 0 : Nat) : Int), .ref u])) D (.lst (ts.map V.ref ++ [.ref T]))) := ((tst sH4).trans (tst s5)).trans (tst_lst hD5)
        refine pairsAt_snoc (PairsAt.mono hts t6) (b := u) ?_ ?_
        · rw [upd_ne nDT.symm, upd_same]
        · exact ((tst s5).trans (tst_lst hD5)) _ _ hu4
    rintro H3 ⟨sH3, ts, hD3, hts⟩
    have hn : (nV (canL R k)).length = (succs R k).length := by unfold succs; rw [List.length_map, List.length_map]
    rw [hn, List.take_length] at hts
    have G3 := G2.mono sH3
    have hb3 : H3 b = some (iT k) := tst (sH2.trans sH3) _ _ hbk
    have nDl : D ≠ la := fun e => by rw [e, G2.line] at hD; cases hD
    have ndl : (gkv fs es).length < sizeLine := len_lt (by omega)
    refine ⟨_, rfl, _, rfl, fa, _, rfl, dput_t G3.found hb3 ndl, ?_⟩
    have G4 := G3.edge ⟨ts, hD3, hts⟩ nDl hkf hfa
    have eD : upd H3 fa (.dT (putK (gkv fs es) (ck k) (.ref D))) D = some (.lst (ts.map V.ref)) := by
      rw [upd_ne (ne_kind hD3 G3.found (fun z => nomatch z))]
      exact hD3
    have t4 : Tst H3 (upd H3 fa (.dT (putK (gkv fs es) (ck k) (.ref D)))) := tst_dT G3.found
    have hb4 := t4 _ _ hb3
    have eP := PairsAt.mono hts t4
    -- for number, behind in found[here]
    refine ⟨_, rfl, _, rfl, fa, _, rfl, dget_t (Rd.of G4.found) hb4 (v := some (.ref D)) ?_, ?_⟩
    · rw [← gkv_put G3.edges hkf, valV_put, if_pos rfl]
    have eapp : fs ++ k :: t' = (fs ++ [k]) ++ t' := by simp
    refine ⟨D, rfl, ⟨_, SqL.of eD⟩, for_it walk_list (fun i σ H' => ∃ t lt v7 v8, σ = [some (.ref r), some (.ref a), some (.int 1000), some (.ref fa), some (.ref la), some (.ref sa), some (.ref b), v7, v8] ∧
      GI H R c fa la sa (fs ++ [k]) (es ++ [D]) ((fs ++ [k]) ++ t) lt H' ∧ ((fs ++ [k]) ++ t).head? = some c ∧ H' D = some (.lst (ts.map V.ref)) ∧ PairsAt H' ts (succs R k) ∧ (∀ j, j < i → ∀ x, (succs R k)[j]? = some x → x.2 ∈ (fs ++ [k]) ++ t) ∧
      (∀ k' ∈ fs, ∀ d ∈ nexts R k', d ∈ (fs ++ [k]) ++ t)) ⟨t', lt, v7, v8, rfl, by rw [← eapp]; exact G4, by rw [← eapp]; exact hh, eD, eP, fun j hj => absurd hj (by omega), by rw [← eapp]; exact cl⟩ (fun i σ H' _ ⟨_, _, _, _, _, _, _, e, _⟩ => SqL.of e) ?_ ?_⟩
    · rintro i x σ H5 H5' hi ⟨t5, lt5, v7, v8, rfl, G5, h5, e5, p5, d5, c5⟩ ⟨rfl, hx⟩
      have hi' : i < ts.length := by rwa [List.length_map] at hi
      obtain ⟨T, hT⟩ : ∃ T, ts[i]? = some T := ⟨ts[i], List.getElem?_eq_getElem hi'⟩
      obtain rfl := ref_at hx hT
      obtain ⟨⟨j, d⟩, hjd, u, hTt, hut⟩ := paired_getL (F := fun t (kb : Nat × List Int) => ∃ b, H5' t = some (.tup [.int (kb.1 : Int), .ref b]) ∧ H5' b = some (iT kb.2)) p5 hT
      have hdn : d ∈ nexts R k := by
        rw [nexts_eq]
        exact List.mem_map.mpr ⟨(j, d), List.mem_of_getElem? hjd, rfl⟩
      refine ⟨T, _, rfl, Rd.of hTt, rfl, _, _, rfl, _, _, rfl, rfl, ?_⟩
      refine ⟨_, rfl, _, rfl, sa, _, rfl, dget_t (Rd.of G5.seen) hut rfl, _, rfl, ?_⟩
      rw [fkv_val]
      have l5 := F.few G5.nd G5.come
      by_cases hd : d ∈ (fs ++ [k]) ++ t5
      · rw [if_pos hd]
        refine iteF ⟨t5, lt5, _, _, rfl, G5, h5, e5, p5, fun j' hj' x' hx' => ?_, c5⟩
        rcases Nat.lt_or_ge j' i with z | z
        · exact d5 j' z x' hx'
        · have : j' = i := by omega
          subst this
          rw [hjd] at hx'
          rw [← Option.some.inj hx']
          exact hd
      · rw [if_neg hd]
        have hcd : Comes R c d := (G5.come k (List.mem_append_left _ (List.mem_append_right _ List.mem_cons_self))).step hdn
        have lt5l : lt5.length = ((fs ++ [k]) ++ t5).length := Paired.length G5.tups
        have G6 := G5.push hut hd hcd hlaH hsaH
        have eput : putK (fkv seenV ((fs ++ [k]) ++ t5)) (ck d) (.bl true) = fkv seenV (((fs ++ [k]) ++ t5) ++ [d]) := fkv_put hd rfl
        have ul : upd H5' sa (.dT (fkv seenV (((fs ++ [k]) ++ t5) ++ [d]))) la = some (.lst (lt5.map V.ref)) := by rw [upd_ne nsl.symm]; exact G5.line
        refine iteT ⟨_, rfl, _, rfl, sa, _, rfl, dput_t G5.seen hut (by rw [fkv_len]; exact len_lt (by omega)), ?_⟩
        rw [eput]
        refine ⟨_, rfl, .inl ⟨rfl, _, SqL.of ul⟩, _, rfl, la, _, _, rfl, rfl, ul, by rw [List.length_map]; exact len_lt (by omega), ?_⟩
        have e8 : ((fs ++ [k]) ++ t5) ++ [d] = (fs ++ [k]) ++ (t5 ++ [d]) := List.append_assoc _ _ _
        rw [e8] at G6 ⊢
        have l1 := tst_dT (o := .dT (fkv seenV ((fs ++ [k]) ++ (t5 ++ [d])))) G5.seen
        rw [e8] at ul
        have l2 := l1.trans (tst_lst (o := .lst (lt5.map V.ref ++ [.ref u])) ul)
        refine ⟨t5 ++ [d], lt5 ++ [u], _, _, rfl, G6, ?_, ?_, PairsAt.mono p5 l2, fun j' hj' x' hx' => ?_, fun k' hk' d' hd' => ?_⟩
        · rw [← e8, List.head?_append, h5]
          rfl
        · rw [upd_ne nDl, upd_ne (ne_kind e5 G5.seen (fun z => nomatch z))]
          exact e5
        · rcases Nat.lt_or_ge j' i with z | z
          · have := d5 j' z x' hx'
            rw [← e8]
            exact List.mem_append_left _ this
          · have : j' = i := by omega
            subst this
            rw [hjd] at hx'
            rw [← Option.some.inj hx', ← e8]
            exact List.mem_append_right _ List.mem_cons_self
        · rw [← e8]
          exact List.mem_append_left _ (c5 k' hk' d' hd')
    · rintro σ H5 ⟨t5, lt5, v7, v8, rfl, G5, h5, e5, p5, d5, c5⟩
      have l5 := F.few G5.nd G5.come
      have lt5l : lt5.length = ((fs ++ [k]) ++ t5).length := Paired.length G5.tups
      refine ⟨_, rfl, la, _, rfl, .inl (Rd.of G5.line), _, rfl, _, _, rfl, rfl, _, rfl, ?_⟩
      refine ite2 (fun z => ?_) (fun _ => ?_)
      · have z' : (1000 : Int) < (((lt5.map V.ref).length : Nat) : Int) := of_decide_eq_true z
        rw [List.length_map, lt5l] at z'
        omega
      · refine ⟨fs ++ [k], es ++ [D], t5, lt5, _, v7, v8, rfl, G5, h5, fun k' hk' d hd => ?_, by rw [List.length_append]; show m - 1 + (fs.length + 1) = 36; have : 1 ≤ m := by { have := List.length_append (as := fs) (bs := k :: t'); rw [List.length_cons] at this; omega }; omega⟩
        rcases List.mem_append.mp hk' with z | z
        · exact c5 k' z d hd
        · rw [List.mem_singleton.mp z, nexts_eq] at hd
          obtain ⟨x, hx, rfl⟩ := List.mem_map.mp hd
          obtain ⟨j, hj, ej⟩ := List.mem_iff_getElem.mp hx
          have hts5 : ts.length = (succs R k).length := Paired.length p5
          exact d5 j (by rw [List.length_map]; omega) x (by rw [List.getElem?_eq_getElem hj, ej])
  · -- the end
    have hc' : ¬ (((gkv fs es).length : Nat) : Int) < (((lt.map V.ref).length : Nat) : Int) := fun z => hc (decide_eq_true z)
    rw [eg, List.length_map, hlt, List.length_append] at hc'
    have : t = [] := List.length_eq_zero_iff.mp (by omega)
    subst this
    rw [List.append_nil] at G hh cl
    have hcm : c ∈ fs := List.mem_of_mem_head? (by rw [hh]; rfl)
    refine ⟨_, rfl, q H1 fa fs G.same hfa ⟨es, G.found, paired_mono G.edges fun k e z => z.1⟩ hh (allOf_closed G.nd hcm G.come cl)⟩
end
end PB
namespace PB
open PySem PySem.Spec PyProof.Rows L2
/-! ### a row of meetings -/
def WalkTo (R : Rule) : List Int → List Nat → List Int → Prop
  | c, [], d => c = d
  | c, j :: js, d => j ∈ canL R c ∧ WalkTo R (behind c (R.mt j)) js d
theorem WalkTo.comes {R : Rule} : ∀ {js : List Nat} {c d : List Int}, WalkTo R c js d → Comes R c d
  | [], c, d, h => by
    have h : c = d := h
    subst h
    exact .refl
  | j :: js, c, d, ⟨h1, h2⟩ => Comes.head (mem_nexts.mpr ⟨j, h1, rfl⟩) (WalkTo.comes h2)
/-- how the steps lead back from k to c -/
inductive Chain (R : Rule) (c : List Int) (H : Hp) (kvs : List (List L2.Key × V)) : List Int → Nat → Prop
  | zero : valV kvs (ck c) = some .non → Chain R c H kvs c 0
  | succ {k pr : List Int} {T pa : Addr} {j n : Nat} : valV kvs (ck k) = some (.ref T) → H T = some (.tup [.ref pa, .int (j : Int)]) → H pa = some (iT pr) → j ∈ canL R pr → k = behind pr (R.mt j) → Chain R c H kvs pr n → Chain R c H kvs k (n + 1)
theorem Chain.mono {R : Rule} {c : List Int} {H H' : Hp} {kvs : List (List L2.Key × V)} {k : List Int} {n : Nat} (h : Chain R c H kvs k n) (t : Tst H H') : Chain R c H' kvs k n := by
  induction h with
  | zero e => exact .zero e
  | succ e1 e2 e3 e4 e5 _ ih => exact .succ e1 (t _ _ e2) (t _ _ e3) e4 e5 ih
theorem Chain.put {R : Rule} {c : List Int} {H : Hp} {kvs : List (List L2.Key × V)} {k d : List Int} {n : Nat} {v : V} (h : Chain R c H kvs k n) (hd : valV kvs (ck d) = none) : Chain R c H (putK kvs (ck d) v) k n := by
  have key : ∀ {x : List Int} {u : V}, valV kvs (ck x) = some u → valV (putK kvs (ck d) v) (ck x) = some u := fun {x u} e => by
    rw [valV_put, if_neg (fun z => by rw [z, hd] at e; cases e)]
    exact e
  induction h with
  | zero e => exact .zero (key e)
  | succ e1 e2 e3 e4 e5 _ ih => exact .succ (key e1) e2 e3 e4 e5 ih
/-! ### while a way is sought -/
structure RI (H0 : Hp) (R : Rule) (c : List Int) (la sa : Addr) (kvs : List (List L2.Key × V)) (ls : List (List Int)) (lt : List Addr) (H : Hp) : Prop where
  same : Same H0 H
  line : H la = some (.lst (lt.map V.ref))
  tups : TupsAt H lt ls
  steps : H sa = some (.dT kvs)
  keys : ∀ k, (valV kvs (ck k)).isSome = decide (k ∈ ls)
  kl : kvs.length ≤ ls.length
  chain : ∀ k ∈ ls, ∃ n, n ≤ ls.length ∧ Chain R c H kvs k n
  nd : ls.Nodup
  come : ∀ k ∈ ls, Comes R c k
  cin : c ∈ ls
theorem RI.mono {H0 H H' : Hp} {R : Rule} {c : List Int} {la sa : Addr} {kvs : List (List L2.Key × V)} {ls : List (List Int)} {lt : List Addr} (G : RI H0 R c la sa kvs ls lt H) (s : Same H H') : RI H0 R c la sa kvs ls lt H' :=
  ⟨G.same.trans s, s _ _ G.line, tups_mono G.tups (tst s), s _ _ G.steps, G.keys, G.kl, fun k hk => let ⟨n, h1, h2⟩ := G.chain k hk; ⟨n, h1, h2.mono (tst s)⟩, G.nd, G.come, G.cin⟩
theorem RI.push {H0 H : Hp} {R : Rule} {c d pr : List Int} {la sa T pa b : Addr} {j : Nat} {kvs : List (List L2.Key × V)} {ls : List (List Int)} {lt : List Addr} (G : RI H0 R c la sa kvs ls lt H) (hb : H b = some (iT d)) (hd : d ∉ ls) (hT : H T = some (.tup [.ref pa, .int (j : Int)]))
    (hpa : H pa = some (iT pr)) (hpr : pr ∈ ls) (hj : j ∈ canL R pr) (ed : d = behind pr (R.mt j)) (h1 : H0 la = none) (h2 : H0 sa = none) :
    RI H0 R c la sa (putK kvs (ck d) (.ref T)) (ls ++ [d]) (lt ++ [b]) (upd (upd H sa (.dT (putK kvs (ck d) (.ref T)))) la (.lst (lt.map V.ref ++ [.ref b]))) := by
  have nls : la ≠ sa := ne_kind G.line G.steps (fun z => nomatch z)
  have t1 : Tst H (upd H sa (.dT (putK kvs (ck d) (.ref T)))) := tst_dT G.steps
  have l1 : upd H sa (.dT (putK kvs (ck d) (.ref T))) la = some (.lst (lt.map V.ref)) := by rw [upd_ne nls]; exact G.line
  have t2 := t1.trans (tst_lst (o := .lst (lt.map V.ref ++ [.ref b])) l1)
  have hno : valV kvs (ck d) = none := by
    have := G.keys d
    rw [decide_eq_false hd] at this
    cases e : valV kvs (ck d) with
    | none => rfl
    | some _ => rw [e] at this; cases this
  refine ⟨same_upd (same_upd G.same h2) h1, ?_, tups_snoc (tups_mono G.tups t2) (t2 _ _ hb), by rw [upd_ne nls.symm, upd_same], fun k => ?_, ?_, fun k hk => ?_, nd_snoc' G.nd hd, fun k hk => ?_, List.mem_append_left _ G.cin⟩
  · rw [upd_same, List.map_append]
    rfl
  · rw [valV_put]
    by_cases e : k = d
    · subst e
      rw [if_pos rfl, decide_eq_true (List.mem_append_right _ List.mem_cons_self)]
      rfl
    · rw [if_neg (fun z => e (ck_inj z)), G.keys]
      refine decide_eq_decide.mpr ⟨fun z => List.mem_append_left _ z, fun z => ?_⟩
      rcases List.mem_append.mp z with z | z
      · exact z
      · exact absurd (List.mem_singleton.mp z) e
  · have := length_putK kvs (ck d) (.ref T)
    have := G.kl
    rw [List.length_append]
    show _ ≤ ls.length + 1
    omega
  · have old : ∀ k ∈ ls, ∃ n, n ≤ ls.length ∧ Chain R c (upd (upd H sa (.dT (putK kvs (ck d) (.ref T)))) la (.lst (lt.map V.ref ++ [.ref b]))) (putK kvs (ck d) (.ref T)) k n := fun k hk => by
      obtain ⟨n, a1, a2⟩ := G.chain k hk
      exact ⟨n, a1, (a2.put hno).mono t2⟩
    rcases List.mem_append.mp hk with z | z
    · obtain ⟨n, a1, a2⟩ := old k z
      exact ⟨n, by rw [List.length_append]; omega, a2⟩
    · have e := List.mem_singleton.mp z
      subst e
      obtain ⟨n, a1, a2⟩ := old pr hpr
      exact ⟨n + 1, by rw [List.length_append]; show n + 1 ≤ ls.length + 1; omega, .succ (by rw [valV_put, if_pos rfl]) (t2 _ _ hT) (t2 _ _ hpa) hj ed a2⟩
  · rcases List.mem_append.mp hk with z | z
    · exact G.come k z
    · have e := List.mem_singleton.mp z
      subst e
      exact (G.come pr hpr).step (mem_nexts.mpr ⟨j, hj, ed⟩)
section
variable {P : Program} {w : World} {K : PySem.W.Frag} {mg : Str → Option Value} {base : Heap}
def spRowTo : Sp := fun vs H Q _ => ∃ (g a gl : Addr) (R : Rule) (c : List Int) (ks gs : List (List Int)), vs = [.ref g, .ref a, .ref gl] ∧ GraphAt H g R ks ∧ Few R c ∧ AllOf R c ks ∧ H a = some (iT c) ∧ H gl = some (.dT (fkv seenV gs)) ∧ (∃ k ∈ gs, Comes R c k) ∧
  ∀ H' p nl cp js d, Same H H' → H' p = some (.tup [.ref nl, .ref cp]) → H' nl = some (.lst (nV js)) → js.length ≤ 100 → H' cp = some (iT d) → d ∈ gs → WalkTo R c js d → Q (.ref p) H'
theorem d_row_to (Z : BN mg) (A : At K mg "row_to" s_row_to ["graph", "crowd", "goals"]) : Def P w K mg base 1 "row_to" ["graph", "crowd", "goals"] [] spRowTo := by
  refine A.def sc_row_to (fun vs H Q E h => ?_) (fun f cdv A outer s H vs Q E hr h => ?_)
  · obtain ⟨g, a, gl, R, c, ks, gs, rfl, _⟩ := h
    rfl
  obtain ⟨g, a, gl, R, c, ks, gs, rfl, ⟨es, hg, hes⟩, F, AO, ha, hgl, ⟨kg, hkg, hcg⟩, q⟩ := h
  have hu := hu_of hr
  refine ⟨_, (pss_cons (ps_set (i := 3) sc_row_to.nd rfl (Or.inl rfl) (pe_dispT hu (pv 1) pe_non))
    (pss_cons (ps_set (i := 4) sc_row_to.nd rfl (Or.inl rfl) (pe_lst (pa_cons (pv 1) pa_nil)))
    (pss_cons (ps_set (i := 5) sc_row_to.nd rfl (Or.inl rfl) pe_int)
    (pss_cons (ps_while PassesOwn.never (pt_cmp (pc_dnotin hu (pe_ix ix_list0 (pv 4) (pv 5) (fun _ _ => rfl)) (pv 2))) (pss_cons (ps_for PassesOwn.never rfl (pi_list (pe_dget hu (pv 0) (pe_ix ix_list0 (pv 4) (pv 5) (fun _ _ => rfl)) (fun _ _ => rfl))) (pg_tup0 rfl (pgs_cons (pg_name (i := 6) sc_row_to.nd rfl (Or.inl rfl)) (pgs_cons (pg_name (i := 7) sc_row_to.nd rfl (Or.inl rfl)) pgs_nil)))
        (pss_one (ps_if (pt_cmp (pc_dnotin hu (pv 7) (pv 3))) (pss_cons (ps_dput hu (pv 3) (pv 7) (pe_tup (pa_cons (pe_ix ix_list0 (pv 4) (pv 5) (fun _ _ => rfl)) (pa_cons (pv 6) pa_nil))) rfl)
          (pss_one (ps_expr (pe_bm PySem.F.plainAttrs_list PySem.F.slot_list_append PySem.F.type_list_append mt_append (pv 4) (pa_cons (pv 7) pa_nil))))) pss_nil)))
      (pss_one (ps_set (i := 5) sc_row_to.nd rfl (Or.inl rfl) (pe_op op_add (pv 5) pe_int)))))
    (pss_cons (ps_set (i := 8) sc_row_to.nd rfl (Or.inl rfl) (pe_lst pa_nil))
    (pss_cons (ps_set (i := 9) sc_row_to.nd rfl (Or.inl rfl) (pe_ix ix_list0 (pv 4) (pv 5) (fun _ _ => rfl)))
    (pss_cons (ps_while PassesOwn.never (pt_cmpR op_notN (pe_dget hu (pv 3) (pv 9) (fun _ _ => rfl)) pe_non (by first | exact nomark _ | rfl)) (pss_cons (ps_asg (pe_dget hu (pv 3) (pv 9) (fun _ _ => rfl)) (pg_tup0 rfl (pgs_cons (pg_name (i := 9) sc_row_to.nd rfl (Or.inl rfl)) (pgs_cons (pg_name (i := 6) sc_row_to.nd rfl (Or.inl rfl)) pgs_nil))))
      (pss_one (ps_expr (pe_bm PySem.F.plainAttrs_list PySem.F.slot_list_append PySem.F.type_list_append mt_append (pv 8) (pa_cons (pv 6) pa_nil))))))
    (pss_one (ps_ret (pe_tup (pa_cons (pe_revL (pv 8)) (pa_cons (pe_ix ix_list0 (pv 4) (pv 5) (fun _ _ => rfl)) pa_nil)))))))))))), ?_⟩
  intro sa hsa
  have s1 : Same H (upd H sa (.dT [])) := same_new hsa
  refine ⟨_, rfl, upd_same, a, ck c, rfl, by rw [ck_kV]; exact s1 _ _ ha, ?_⟩
  have s2 : Same H (upd (upd H sa (.dT [])) sa (.dT [(ck c, .non)])) := same_upd s1 hsa
  refine ⟨_, rfl, (by show 1 ≤ sizeLine; decide), fun la hla => ?_⟩
  have hlaH := free_of s2 hla
  have s3 := same_upd (o := .lst [.ref a]) s2 hlaH
  have nls : la ≠ sa := fun e => by rw [e, upd_same] at hla; cases hla
  have v0 : valV ([(ck c, V.non)] : List (List L2.Key × V)) (ck c) = some .non := valV_pos rfl
  refine ⟨fun m σ H' => ∃ ls lt kvs v6 v7, ∃ at_ : Nat, σ = [some (.ref g), some (.ref a), some (.ref gl), some (.ref sa), some (.ref la), some (.int (at_ : Int)), v6, v7, none, none] ∧ RI H R c la sa kvs ls lt H' ∧ at_ < ls.length ∧
    (∀ i, i < at_ → ∀ k, ls[i]? = some k → k ∉ gs ∧ ∀ d ∈ nexts R k, d ∈ ls) ∧ m + at_ = 36, ⟨36, [c], [a], [(ck c, .non)], none, none, 0, rfl, ?_, by simp, fun i hi => absurd hi (by omega), rfl⟩, ?_⟩
  · refine ⟨s3, by rw [upd_same]; rfl, .cons (s3 _ _ ha) .nil, by rw [upd_ne nls.symm, upd_same], fun k => ?_, Nat.le_refl _, fun k hk => ?_, by simp, fun k hk => ?_, List.mem_cons_self⟩
    · by_cases e : k = c
      · subst e
        rw [v0, decide_eq_true List.mem_cons_self]
        rfl
      · rw [valV_neg (p := (ck c, V.non)) (fun z => e (ck_inj z).symm), decide_eq_false (fun z => e (List.mem_singleton.mp z))]
        rfl
    · rw [List.mem_singleton.mp hk]
      exact ⟨0, Nat.zero_le _, .zero v0⟩
    · rw [List.mem_singleton.mp hk]
      exact .refl
  rintro m σ H1 ⟨ls, lt, kvs, v6, v7, at_, rfl, G, hat, hpre, hm⟩
  have l35 := F.few G.nd G.come
  have hlt : lt.length = ls.length := Paired.length G.tups
  obtain ⟨k, hk⟩ : ∃ k, ls[at_]? = some k := ⟨ls[at_], List.getElem?_eq_getElem hat⟩
  have hkm : k ∈ ls := List.mem_of_getElem? hk
  obtain ⟨b, hb, hbk⟩ := paired_get (F := fun t ns => H1 t = some (.tup (ns.map V.int))) G.tups hk
  have hix : atI (lt.map V.ref) (at_ : Int) = some (.ref b) := at_nat (by rw [List.getElem?_map, hb]; rfl)
  refine ⟨_, rfl, _, rfl, la, _, _, _, rfl, rfl, Rd.of G.line, hix, _, rfl, gl, _, rfl, dget_t (Rd.of (G.same _ _ hgl)) hbk rfl, _, rfl, ?_⟩
  rw [fkv_val]
  by_cases hgk : k ∈ gs
  · -- found
    rw [if_pos hgk]
    refine iteF ?_
    refine ⟨Nat.zero_le _, fun nl hnl => ?_⟩
    have s4 : Same H1 (upd H1 nl (.lst [])) := same_new hnl
    have hnlH := free_of G.same hnl
    have nnl : la ≠ nl := fun e => by rw [← e, G.line] at hnl; cases hnl
    have nns : sa ≠ nl := fun e => by rw [← e, G.steps] at hnl; cases hnl
    refine ⟨_, rfl, _, rfl, la, _, _, _, rfl, rfl, Rd.of (s4 _ _ G.line), hix, ?_⟩
    obtain ⟨n0, hn0, ch0⟩ := G.chain k hkm
    refine ⟨fun m σ H' => ∃ k' b' js v6, σ = [some (.ref g), some (.ref a), some (.ref gl), some (.ref sa), some (.ref la), some (.int (at_ : Int)), v6, v7, some (.ref nl), some (.ref b')] ∧ Same H H' ∧ H' la = some (.lst (lt.map V.ref)) ∧ H' b = some (iT k) ∧ H' sa = some (.dT kvs) ∧
      H' nl = some (.lst (nV js)) ∧ H' b' = some (iT k') ∧ Chain R c H' kvs k' m ∧ WalkTo R k' js.reverse k ∧ js.length + m = n0, ⟨n0, k, b, [], v6, rfl, G.same.trans s4, s4 _ _ G.line, s4 _ _ hbk, s4 _ _ G.steps, upd_same, s4 _ _ hbk, ch0.mono (tst s4), rfl, by simp⟩, ?_⟩
    rintro m2 σ H2 ⟨k', b', js, w6, rfl, sH, hl, hbk2, hs, hn, hb', ch, wk, hjl⟩
    cases ch with
    | zero e =>
      refine ⟨_, rfl, _, rfl, sa, _, rfl, dget_t (Rd.of hs) hb' e, rfl, _, rfl, ?_⟩
      refine iteF ?_
      refine ⟨_, rfl, nl, _, rfl, SqL.of hn, fun rl hrl => ?_⟩
      have s5 : Same H2 (upd H2 rl (.lst (nV js).reverse)) := same_new hrl
      refine ⟨_, rfl, _, rfl, la, _, _, _, rfl, rfl, Rd.of (s5 _ _ hl), hix, (by show 2 ≤ sizeLine; decide), fun p hp => ?_⟩
      have s6 := same_new (o := .tup [.ref rl, .ref b]) hp
      refine q _ p rl b js.reverse k ((sH.trans s5).trans s6) upd_same (s6 _ _ ?_) (by rw [List.length_reverse]; omega) (s6 _ _ (s5 _ _ hbk2)) hgk wk
      rw [upd_same, ← List.map_reverse]
    | @succ _ pr T pa j n e1 e2 e3 e4 e5 ch' =>
      refine ⟨_, rfl, _, rfl, sa, _, rfl, dget_t (Rd.of hs) hb' e1, rfl, _, rfl, ?_⟩
      refine iteT ⟨fun σ' H' => ∃ k' b' js v6, σ' = [some (.ref g), some (.ref a), some (.ref gl), some (.ref sa), some (.ref la), some (.int (at_ : Int)), v6, v7, some (.ref nl), some (.ref b')] ∧ Same H H' ∧ H' la = some (.lst (lt.map V.ref)) ∧ H' b = some (iT k) ∧ H' sa = some (.dT kvs) ∧
        H' nl = some (.lst (nV js)) ∧ H' b' = some (iT k') ∧ Chain R c H' kvs k' n ∧ WalkTo R k' js.reverse k ∧ js.length + n = n0, ?_, ?_⟩
      · rintro σ' H' h
        exact ⟨n, Nat.lt_succ_self n, h⟩
      refine ⟨_, rfl, _, rfl, sa, _, rfl, dget_t (Rd.of hs) hb' e1, T, _, rfl, Rd.of e2, rfl, _, _, rfl, _, _, rfl, rfl, ?_⟩
      refine ⟨_, rfl, .inl ⟨rfl, _, SqL.of hn⟩, _, rfl, nl, _, _, rfl, rfl, hn, by rw [List.length_map]; exact len_lt (by omega), ?_⟩
      have t6 : Tst H2 (upd H2 nl (.lst (nV js ++ [.int (j : Int)]))) := tst_lst hn
      refine ⟨pr, pa, js ++ [j], _, rfl, same_upd sH hnlH, by rw [upd_ne nnl]; exact hl, t6 _ _ hbk2, by rw [upd_ne nns]; exact hs, by rw [upd_same, nV_snoc], t6 _ _ e3, ch'.mono t6, ?_, ?_⟩
      · rw [List.reverse_append]
        refine ⟨e4, ?_⟩
        rw [← e5]
        exact wk
      · rw [List.length_append]
        show js.length + 1 + n = n0
        omega
  · -- on
    rw [if_neg hgk]
    have hkk : k ∈ ks := (AO.all k).mpr (G.come k hkm)
    obtain ⟨e, he, ⟨ts, he1, he2⟩, _⟩ := gkv_val hes hkk
    refine iteT ⟨fun σ' H' => ∃ ls lt kvs v6 v7, ∃ at' : Nat, σ' = [some (.ref g), some (.ref a), some (.ref gl), some (.ref sa), some (.ref la), some (.int (at' : Int)), v6, v7, none, none] ∧ RI H R c la sa kvs ls lt H' ∧ at' < ls.length ∧
      (∀ i, i < at' → ∀ k, ls[i]? = some k → k ∉ gs ∧ ∀ d ∈ nexts R k, d ∈ ls) ∧ (m - 1) + at' = 36, ?_, ?_⟩
    · rintro σ' H' h
      obtain ⟨ls', lt', kvs', w6, w7, at', h⟩ := h
      exact ⟨m - 1, by omega, ls', lt', kvs', w6, w7, at', h⟩
    refine ⟨_, rfl, _, rfl, _, rfl, la, _, _, _, rfl, rfl, Rd.of G.line, hix, g, _, rfl, dget_t (Rd.of (G.same _ _ hg)) hbk he, e, rfl, ⟨_, SqL.of (G.same _ _ he1)⟩, for_it walk_list (fun i σ H' => ∃ t lt kvs v6 v7, σ = [some (.ref g), some (.ref a), some (.ref gl), some (.ref sa), some (.ref la), some (.int (at_ : Int)), v6, v7, none, none] ∧
      RI H R c la sa kvs (ls ++ t) lt H' ∧ (∀ j, j < i → ∀ x, (succs R k)[j]? = some x → x.2 ∈ ls ++ t)) ⟨[], lt, kvs, v6, v7, rfl, by rw [List.append_nil]; exact G, fun j hj => absurd hj (by omega)⟩ (fun i σ H' _ ⟨_, _, _, _, _, _, g', _⟩ => SqL.of (g'.same _ _ he1)) ?_ ?_⟩
    · rintro i x σ H5 H5' hi ⟨t5, lt5, kvs5, w6, w7, rfl, G5, d5⟩ ⟨rfl, hx⟩
      have hi' : i < ts.length := by rwa [List.length_map] at hi
      obtain ⟨T, hT⟩ : ∃ T, ts[i]? = some T := ⟨ts[i], List.getElem?_eq_getElem hi'⟩
      obtain rfl := ref_at hx hT
      obtain ⟨⟨j, d⟩, hjd, u, hTt, hut⟩ := paired_getL (F := fun t (kb : Nat × List Int) => ∃ b, H5' t = some (.tup [.int (kb.1 : Int), .ref b]) ∧ H5' b = some (iT kb.2)) (PairsAt.mono he2 (tst G5.same)) hT
      have hmem : j ∈ canL R k ∧ d = behind k (R.mt j) := by
        have := List.mem_of_getElem? hjd
        obtain ⟨j', h1, h2⟩ := List.mem_map.mp this
        injection h2 with h2 h3
        subst h2
        exact ⟨h1, h3.symm⟩
      have hk5 : (ls ++ t5)[at_]? = some k := by rw [List.getElem?_append_left hat]; exact hk
      obtain ⟨b5, hb5, hbk5⟩ := paired_get (F := fun t ns => H5' t = some (.tup (ns.map V.int))) G5.tups hk5
      have hix5 : atI (lt5.map V.ref) (at_ : Int) = some (.ref b5) := at_nat (by rw [List.getElem?_map, hb5]; rfl)
      refine ⟨T, _, rfl, Rd.of hTt, rfl, _, _, rfl, _, _, rfl, rfl, ?_⟩
      refine ⟨_, rfl, _, rfl, sa, _, rfl, dget_t (Rd.of G5.steps) hut rfl, _, rfl, ?_⟩
      rw [G5.keys]
      have l5 := F.few G5.nd G5.come
      by_cases hd : d ∈ ls ++ t5
      · rw [decide_eq_true hd]
        refine iteF ⟨t5, lt5, kvs5, _, _, rfl, G5, fun j' hj' x' hx' => ?_⟩
        rcases Nat.lt_or_ge j' i with z | z
        · exact d5 j' z x' hx'
        · have : j' = i := by omega
          subst this
          rw [hjd] at hx'
          rw [← Option.some.inj hx']
          exact hd
      · rw [decide_eq_false hd]
        have lt5l : lt5.length = (ls ++ t5).length := Paired.length G5.tups
        refine iteT ⟨_, rfl, _, rfl, la, _, _, _, rfl, rfl, Rd.of G5.line, hix5, _, rfl, (by show 2 ≤ sizeLine; decide), fun U hU => ?_⟩
        have s7 := same_new (o := .tup [.ref b5, .int (j : Int)]) hU
        have G6 := G5.mono s7
        have ul : upd (upd H5' U (.tup [.ref b5, .int (j : Int)])) sa (.dT (putK kvs5 (ck d) (.ref U))) la = some (.lst (lt5.map V.ref)) := by rw [upd_ne nls]; exact G6.line
        have l6 := G6.kl
        refine ⟨_, rfl, _, rfl, sa, _, rfl, dput_t G6.steps (s7 _ _ hut) (len_lt (by omega)), ?_⟩
        refine ⟨_, rfl, .inl ⟨rfl, _, SqL.of ul⟩, _, rfl, la, _, _, rfl, rfl, ul, by rw [List.length_map]; exact len_lt (by omega), ?_⟩
        have G7 := G6.push (s7 _ _ hut) hd upd_same (s7 _ _ hbk5) (List.mem_append_left _ hkm) hmem.1 hmem.2 hlaH hsa
        rw [List.append_assoc] at G7
        refine ⟨t5 ++ [d], lt5 ++ [u], _, _, _, rfl, G7, fun j' hj' x' hx' => ?_⟩
        rw [← List.append_assoc]
        rcases Nat.lt_or_ge j' i with z | z
        · exact List.mem_append_left _ (d5 j' z x' hx')
        · have : j' = i := by omega
          subst this
          rw [hjd] at hx'
          rw [← Option.some.inj hx']
          exact List.mem_append_right _ List.mem_cons_self
    · rintro σ H5 ⟨t5, lt5, kvs5, w6, w7, rfl, G5, d5⟩
      have hts5 : ts.length = (succs R k).length := Paired.length he2
      rw [List.length_map, hts5] at d5
      have cl : ∀ i, i < at_ + 1 → ∀ k', (ls ++ t5)[i]? = some k' → k' ∉ gs ∧ ∀ d ∈ nexts R k', d ∈ ls ++ t5 := fun i hi k' hk' => by
        rcases Nat.lt_or_ge i at_ with z | z
        · rw [List.getElem?_append_left (by omega)] at hk'
          obtain ⟨a1, a2⟩ := hpre i z k' hk'
          exact ⟨a1, fun d hd => List.mem_append_left _ (a2 d hd)⟩
        · have : i = at_ := by omega
          subst this
          rw [List.getElem?_append_left hat, hk] at hk'
          have := Option.some.inj hk'
          subst this
          refine ⟨hgk, fun d hd => ?_⟩
          rw [nexts_eq] at hd
          obtain ⟨x, hx, rfl⟩ := List.mem_map.mp hd
          obtain ⟨j, hj, ej⟩ := List.mem_iff_getElem.mp hx
          exact d5 j hj x (by rw [List.getElem?_eq_getElem hj, ej])
      have hlen : at_ + 1 < (ls ++ t5).length := by
        rcases Nat.lt_or_ge (at_ + 1) (ls ++ t5).length with z | z
        · exact z
        · have : kg ∈ ls ++ t5 := by
            have all := allOf_closed G5.nd G5.cin G5.come fun k' hk' d hd => by
              obtain ⟨i, hi⟩ := List.mem_iff_getElem?.mp hk'
              have := (List.getElem?_eq_some_iff.mp hi).1
              exact (cl i (by omega) k' hi).2 d hd
            exact (all.all kg).mpr hcg
          obtain ⟨i, hi⟩ := List.mem_iff_getElem?.mp this
          have hil := (List.getElem?_eq_some_iff.mp hi).1
          exact absurd hkg (cl i (by omega) kg hi).1
      refine ⟨_, rfl, _, _, rfl, rfl, ls ++ t5, lt5, kvs5, _, _, at_ + 1, rfl, G5, hlen, cl, by omega⟩
end
end PB
namespace PB
open PySem PySem.Spec PyProof.Rows L2
theorem unlock {H H' : Hp} {g : Addr} {u o : HO} (hg : H g = some u) (s : Same (upd H g o) H') : Same H (upd H' g u) := fun b v q => by
  by_cases e : b = g
  · subst e
    rw [upd_same]
    rw [hg] at q
    exact q
  · rw [upd_ne e]
    exact s _ _ (by rw [upd_ne e]; exact q)
theorem tst_lock {H : Hp} {g : Addr} {kvs : List (List L2.Key × V)} {o : HO} (hg : H g = some (.dT kvs)) : Tst H (upd H g o) := tst_dT hg
/-! ### what leads to each crowd -/
structure AhAt (H : Hp) (A : Addr) (ks : List (List Int)) (ls : List Addr) (ah : List Int → List (List Int)) : Prop where
  top : H A = some (.dT (gkv ks ls))
  lsts : Paired (fun k l => ∃ bs, H l = some (.lst (bs.map V.ref)) ∧ TupsAt H bs (ah k)) ks ls
  nd : ls.Nodup
theorem AhAt.mono {H H' : Hp} {A : Addr} {ks : List (List Int)} {ls : List Addr} {ah : List Int → List (List Int)} (G : AhAt H A ks ls ah) (s : Same H H') : AhAt H' A ks ls ah :=
  ⟨s _ _ G.top, paired_mono G.lsts fun k l ⟨bs, h1, h2⟩ => ⟨bs, s _ _ h1, tups_mono h2 (tst s)⟩, G.nd⟩
theorem paired_at {F F' : List Int → Addr → Prop} : ∀ {ks : List (List Int)} {ls : List Addr} {d : List Int} {l : Addr}, Paired F ks ls → ks.Nodup → ls.Nodup → valV (gkv ks ls) (ck d) = some (.ref l) → (∀ k l', F k l' → l' ≠ l → k ≠ d → F' k l') → (F d l → F' d l) → Paired F' ks ls
  | [], _, d, l, .nil, _, _, _, _, _ => .nil
  | k :: ks, e :: es, d, l, .cons r t, n1, n2, hv, f1, f2 => by
    obtain ⟨a1, a2⟩ := List.nodup_cons.mp n1
    obtain ⟨b1, b2⟩ := List.nodup_cons.mp n2
    by_cases hk : k = d
    · subst hk
      have : e = l := by
        have h : valV ((ck k, V.ref e) :: gkv ks es) (ck k) = some (.ref l) := hv
        rw [valV_pos rfl] at h
        injection h with h
        injection h
      subst this
      have rest : ∀ {ks' : List (List Int)} {es' : List Addr}, Paired F ks' es' → (k ∉ ks') → (e ∉ es') → Paired F' ks' es' := by
        intro ks' es' p
        induction p with
        | nil => intro _ _; exact .nil
        | cons r' t' ih => 
          intro h1 h2
          rw [List.mem_cons, not_or] at h1 h2
          exact .cons (f1 _ _ r' (fun z => h2.1 z.symm) (fun z => h1.1 z.symm)) (ih h1.2 h2.2)
      exact .cons (f2 r) (rest t a1 b1)
    · have h : valV ((ck k, V.ref e) :: gkv ks es) (ck d) = some (.ref l) := hv
      rw [valV_neg (fun z => hk (ck_inj z))] at h
      have hdk : d ∈ ks := by
        rcases Classical.em (d ∈ ks) with z | z
        · exact z
        · rw [gkv_none t z] at h
          cases h
      obtain ⟨e', h1, _, h3⟩ := gkv_val t hdk
      have : e' = l := by
        rw [h] at h1
        injection h1 with h1
        injection h1 with h1
        exact h1.symm
      subst this
      exact .cons (f1 _ _ r (fun z => b1 (by rw [z]; exact h3)) hk) (paired_at t a2 b2 h f1 f2)
theorem AhAt.at {H : Hp} {A : Addr} {ks : List (List Int)} {ls : List Addr} {ah : List Int → List (List Int)} (G : AhAt H A ks ls ah) {d : List Int} (hd : d ∈ ks) : ∃ l bs, valV (gkv ks ls) (ck d) = some (.ref l) ∧ H l = some (.lst (bs.map V.ref)) ∧ TupsAt H bs (ah d) ∧ l ∈ ls := by
  obtain ⟨l, h1, ⟨bs, h2, h3⟩, h4⟩ := gkv_val G.lsts hd
  exact ⟨l, bs, h1, h2, h3, h4⟩
theorem AhAt.push {H : Hp} {A l b : Addr} {ks : List (List Int)} {ls bs : List Addr} {ah : List Int → List (List Int)} {c d : List Int} (G : AhAt H A ks ls ah) (nk : ks.Nodup) (hv : valV (gkv ks ls) (ck d) = some (.ref l)) (hl : H l = some (.lst (bs.map V.ref))) (hb : TupsAt H bs (ah d))
    (hc : H b = some (iT c)) : AhAt (upd H l (.lst (bs.map V.ref ++ [.ref b]))) A ks ls (fun k => if k = d then ah d ++ [c] else ah k) := by
  have t1 : Tst H (upd H l (.lst (bs.map V.ref ++ [.ref b]))) := tst_lst hl
  refine ⟨by rw [upd_ne (ne_kind G.top hl (fun z => nomatch z))]; exact G.top, paired_at G.lsts nk G.nd hv (fun k l' ⟨bs', h1, h2⟩ h3 h4 => ⟨bs', by rw [upd_ne h3]; exact h1, by rw [if_neg h4]; exact tups_mono h2 t1⟩) (fun _ => ⟨bs ++ [b], by rw [upd_same, List.map_append]; rfl, ?_⟩), G.nd⟩
  rw [if_pos rfl]
  exact tups_snoc (tups_mono hb t1) (t1 _ _ hc)
theorem fkv_congr {f g : List Int → V} {l : List (List Int)} (h : ∀ k ∈ l, f k = g k) : fkv f l = fkv g l := List.map_congr_left fun k hk => by rw [h k hk]
theorem ks_nth {ks : List (List Int)} {es : List Addr} {F : List Int → Addr → Prop} (p : Paired F ks es) {i : Nat} {k : List L2.Key} {v : V} (h : (gkv ks es)[i]? = some (k, v)) : ∃ c e, ks[i]? = some c ∧ es[i]? = some e ∧ k = ck c ∧ v = .ref e := by
  induction p generalizing i with
  | nil => cases i <;> cases h
  | @cons x e ks es r t ih =>
    cases i with
    | zero =>
      have h : some (ck x, V.ref e) = some (k, v) := h
      injection h with h
      injection h with h1 h2
      exact ⟨x, e, rfl, rfl, h1.symm, h2.symm⟩
    | succ i =>
      have h : (gkv ks es)[i]? = some (k, v) := h
      obtain ⟨c, e', h1, h2, h3⟩ := ih h
      exact ⟨c, e', by simpa using h1, by simpa using h2, h3⟩
theorem take_snoc {ks : List (List Int)} {i : Nat} {c : List Int} (h : ks[i]? = some c) : ks.take (i + 1) = ks.take i ++ [c] := by
  rw [List.take_add_one, h]
  rfl
abbrev rkV (rk : List Int → Nat) : List Int → V := fun k => .int (rk k : Int)
theorem relock {H H' : Hp} {g : Addr} {o : HO} (s : Same H H') : Same (upd H g o) (upd H' g o) := fun b v q => by
  by_cases e : b = g
  · subst e
    rw [upd_same] at q ⊢
    exact q
  · rw [upd_ne e] at q ⊢
    exact s _ _ q
theorem rel_none {H : Hp} {g l : Addr} {u o : HO} (hg : H g = some u) (hl : H l = none) : upd H g o l = none := by
  rw [upd_ne (fun e => by rw [e, hg] at hl; cases hl)]
  exact hl
/-! ### while the ranks are told -/
structure RkI (H0 : Hp) (R : Rule) (ks gs : List (List Int)) (fa la : Addr) (fs : List (List Int)) (lt : List Addr) (rk : List Int → Nat) (H : Hp) : Prop where
  same : Same H0 H
  line : H la = some (.lst (lt.map V.ref))
  tups : TupsAt H lt fs
  found : H fa = some (.dT (fkv (rkV rk) fs))
  nd : fs.Nodup
  sub : ∀ k ∈ fs, k ∈ ks
  lead : ∀ k ∈ fs, Leads R (· ∈ gs) k
  zero : ∀ k ∈ fs, rk k = 0 → k ∈ gs
  fall : ∀ k ∈ fs, 0 < rk k → ∃ d ∈ nexts R k, d ∈ fs ∧ rk d < rk k
  gin : ∀ k ∈ gs, k ∈ fs
theorem RkI.push {H0 H : Hp} {R : Rule} {ks gs : List (List Int)} {fa la b : Addr} {fs : List (List Int)} {lt : List Addr} {rk : List Int → Nat} (G : RkI H0 R ks gs fa la fs lt rk H) {p k : List Int} (hb : H b = some (iT p)) (hp : p ∉ fs) (hpk : p ∈ ks) (hk : k ∈ fs) (hn : k ∈ nexts R p)
    (h1 : H0 la = none) (h2 : H0 fa = none) :
    RkI H0 R ks gs fa la (fs ++ [p]) (lt ++ [b]) (fun x => if x = p then rk k + 1 else rk x) (upd (upd H fa (.dT (putK (fkv (rkV rk) fs) (ck p) (.int ((rk k : Int) + 1))))) la (.lst (lt.map V.ref ++ [.ref b]))) := by
  have nls : la ≠ fa := ne_kind G.line G.found (fun z => nomatch z)
  have t1 : Tst H (upd H fa (.dT (putK (fkv (rkV rk) fs) (ck p) (.int ((rk k : Int) + 1))))) := tst_dT G.found
  have l1 : upd H fa (.dT (putK (fkv (rkV rk) fs) (ck p) (.int ((rk k : Int) + 1)))) la = some (.lst (lt.map V.ref)) := by rw [upd_ne nls]; exact G.line
  have t2 := t1.trans (tst_lst (o := .lst (lt.map V.ref ++ [.ref b])) l1)
  have old : ∀ x ∈ fs, (if x = p then rk k + 1 else rk x) = rk x := fun x hx => if_neg fun e => hp (by rw [← e]; exact hx)
  have eput : putK (fkv (rkV rk) fs) (ck p) (.int ((rk k : Int) + 1)) = fkv (rkV fun x => if x = p then rk k + 1 else rk x) (fs ++ [p]) := by
    rw [fkv_congr (g := rkV fun x => if x = p then rk k + 1 else rk x) (fun x hx => by
      show V.int (rk x : Int) = V.int ((if x = p then rk k + 1 else rk x : Nat) : Int)
      rw [old x hx])]
    refine fkv_put hp ?_
    show _ = V.int ((if p = p then rk k + 1 else rk p : Nat) : Int)
    rw [if_pos rfl]
    rfl
  refine ⟨same_upd (same_upd G.same h2) h1, by rw [upd_same, List.map_append]; rfl, tups_snoc (tups_mono G.tups t2) (t2 _ _ hb), by rw [upd_ne nls.symm, upd_same, eput], nd_snoc' G.nd hp, fun x hx => ?_, fun x hx => ?_, fun x hx h0 => ?_, fun x hx h0 => ?_, fun x hx => List.mem_append_left _ (G.gin x hx)⟩
  · rcases List.mem_append.mp hx with z | z
    · exact G.sub x z
    · rw [List.mem_singleton.mp z]
      exact hpk
  · rcases List.mem_append.mp hx with z | z
    · exact G.lead x z
    · rw [List.mem_singleton.mp z]
      obtain ⟨d, hd, hdg⟩ := G.lead k hk
      exact ⟨d, Comes.head hn hd, hdg⟩
  · rcases List.mem_append.mp hx with z | z
    · exact G.zero x z (by rw [← old x z]; exact h0)
    · rw [List.mem_singleton.mp z, if_pos rfl] at h0
      omega
  · rcases List.mem_append.mp hx with z | z
    · obtain ⟨d, a1, a2, a3⟩ := G.fall x z (by rw [← old x z]; exact h0)
      exact ⟨d, a1, List.mem_append_left _ a2, by rw [old x z, old d a2]; exact a3⟩
    · rw [List.mem_singleton.mp z]
      exact ⟨k, hn, List.mem_append_left _ hk, by rw [old k hk, if_pos rfl]; omega⟩
section
variable {P : Program} {w : World} {K : PySem.W.Frag} {mg : Str → Option Value} {base : Heap}
/-- ranks of the crowds from which one of gs comes -/
structure Ranks (R : Rule) (ks gs fs : List (List Int)) (rk : List Int → Nat) : Prop where
  nd : fs.Nodup
  sub : ∀ k ∈ fs, k ∈ ks
  all : ∀ k, k ∈ ks → (k ∈ fs ↔ Leads R (· ∈ gs) k)
  zero : ∀ k ∈ fs, rk k = 0 → k ∈ gs
  fall : ∀ k ∈ fs, 0 < rk k → ∃ d ∈ nexts R k, d ∈ fs ∧ rk d < rk k
def spRanksTo : Sp := fun vs H Q _ => ∃ (g gl : Addr) (gt : List Addr) (R : Rule) (c : List Int) (ks gs : List (List Int)), vs = [.ref g, .ref gl] ∧ GraphAt H g R ks ∧ Few R c ∧ AllOf R c ks ∧ H gl = some (.lst (gt.map V.ref)) ∧ TupsAt H gt gs ∧ gs.Nodup ∧ (∀ k ∈ gs, k ∈ ks) ∧
  ∀ H' p fs rk, Same H H' → H p = none → H' p = some (.dT (fkv (rkV rk) fs)) → Ranks R ks gs fs rk → Q (.ref p) H'
theorem d_ranks_to (Z : BN mg) (A : At K mg "ranks_to" s_ranks_to ["graph", "goals"]) : Def P w K mg base 1 "ranks_to" ["graph", "goals"] [] spRanksTo := by
  refine A.def sc_ranks_to (fun vs H Q E h => ?_) (fun f cdv A outer s H vs Q E hr h => ?_)
  · obtain ⟨g, gl, gt, R, c, ks, gs, rfl, _⟩ := h
    rfl
  obtain ⟨g, gl, gt, R, c, ks, gs, rfl, ⟨es, hg, hes⟩, F, AO, hgl, hgt, ngs, sgs, q⟩ := h
  have hu := hu_of hr
  have k35 : ks.length ≤ 35 := F.few AO.nd fun k hk => (AO.all k).mp hk
  have g35 : gs.length ≤ 35 := F.few ngs fun k hk => (AO.all k).mp (sgs k hk)
  have kvl : (gkv ks es).length = ks.length := gkv_len hes
  refine ⟨_, (pss_cons (ps_set (i := 2) sc_ranks_to.nd rfl (Or.inl rfl) (pe_callTy (cr_dictL rfl hr.units) (by rfl) Z.dict (by decide +kernel) (pa_cons (pe_lock (pe_lc (own := [("crowd", 3)]) (g := (gName 3)) rfl sc_ranks_to.nd (pi_keys (pv 0)) (blkOk_by (own := [("crowd", 3)]) (N := N_ranks_to) (sc := defScope s_ranks_to) (by decide +kernel)) (fun _ _ _ _ _ => (pg_name (i := 3) sc_ranks_to.nd rfl (Or.inl rfl))) (fun _ _ _ _ _ => pts_nil) (fun _ _ _ _ _ => (pe_tup (pa_cons (pv 3) (pa_cons (pe_lst pa_nil) pa_nil)))))) pa_nil)))
    (pss_cons (ps_lock (ps_for PassesOwn.never rfl (pi_keys (pv 0)) (pg_name (i := 3) sc_ranks_to.nd rfl (Or.inl rfl))
      (pss_one (ps_for PassesOwn.never rfl (pi_list (pe_dget hu (pv 0) (pv 3) (fun _ _ => rfl))) (pg_tup0 rfl (pgs_cons (pg_name (i := 4) sc_ranks_to.nd rfl (Or.inl rfl)) (pgs_cons (pg_name (i := 5) sc_ranks_to.nd rfl (Or.inl rfl)) pgs_nil)))
        (pss_one (ps_expr (pe_bm PySem.F.plainAttrs_list PySem.F.slot_list_append PySem.F.type_list_append mt_append (pe_dget hu (pv 2) (pv 5) (fun _ _ => rfl)) (pa_cons (pv 3) pa_nil))))))))
    (pss_cons (ps_set (i := 6) sc_ranks_to.nd rfl (Or.inl rfl) (pe_callTy (cr_dictL rfl hr.units) (by rfl) Z.dict (by decide +kernel) (pa_cons (pe_lc (own := [("goal", 9)]) (g := (gName 9)) rfl sc_ranks_to.nd (pi_list (pv 1)) (blkOk_by (own := [("goal", 9)]) (N := N_ranks_to) (sc := defScope s_ranks_to) (by decide +kernel)) (fun _ _ _ _ _ => (pg_name (i := 9) sc_ranks_to.nd rfl (Or.inl rfl))) (fun _ _ _ _ _ => pts_nil) (fun _ _ _ _ _ => (pe_tup (pa_cons (pv 9) (pa_cons pe_int pa_nil))))) pa_nil)))
    (pss_cons (ps_set (i := 7) sc_ranks_to.nd rfl (Or.inl rfl) (pe_callTy call_list0 (by rfl) Z.list (by decide +kernel) (pa_cons (pv 1) pa_nil)))
    (pss_cons (ps_set (i := 8) sc_ranks_to.nd rfl (Or.inl rfl) pe_int)
    (pss_cons (ps_while PassesOwn.never (pt_cmpR op_lt (pv 8) (pe_callB call_len0 (by rfl) Z.len (by decide +kernel) (pa_cons (pv 7) pa_nil)) (by first | exact nomark _ | rfl)) (pss_cons (ps_for PassesOwn.never rfl (pi_list (pe_dget hu (pv 2) (pe_ix ix_list0 (pv 7) (pv 8) (fun _ _ => rfl)) (fun _ _ => rfl))) (pg_name (i := 3) sc_ranks_to.nd rfl (Or.inl rfl))
        (pss_one (ps_if (pt_cmp (pc_dnotin hu (pv 3) (pv 6))) (pss_cons (ps_dput hu (pv 6) (pv 3) (pe_op op_add (pe_dget hu (pv 6) (pe_ix ix_list0 (pv 7) (pv 8) (fun _ _ => rfl)) (fun _ _ => rfl)) pe_int) rfl)
          (pss_one (ps_expr (pe_bm PySem.F.plainAttrs_list PySem.F.slot_list_append PySem.F.type_list_append mt_append (pv 7) (pa_cons (pv 3) pa_nil))))) pss_nil)))
      (pss_one (ps_set (i := 8) sc_ranks_to.nd rfl (Or.inl rfl) (pe_op op_add (pv 8) pe_int)))))
    (pss_one (ps_ret (pv 6))))))))), ?_⟩
  -- ahead = dict([(crowd, []) for crowd in graph])
  refine ⟨g, _, hg, trivial, fun od => ?_⟩
  have sL0 := Same.refl (upd H g (.frz od (.dT (gkv ks es))))
  refine ⟨_, rfl, g, od, rfl, .inr ⟨_, upd_same, fun D hD => lc_it walk_keysT (fun i H' => Same (upd H g (.frz od (.dT (gkv ks es)))) H' ∧ ∃ ts ls, H' D = some (.lst (ts.map V.ref)) ∧ PairsT H' ts (gkv (ks.take i) ls) ∧ Paired (fun k l => H' l = some (.lst []) ∧ H l = none ∧ l ≠ D) (ks.take i) ls ∧ ls.Nodup)
    ⟨same_new hD, [], [], upd_same, .nil, .nil, List.nodup_nil⟩ (fun i H' _ h => h.1 _ _ upd_same) ?_ ?_⟩⟩
  · rintro i x H1 H1' hi ⟨sH, ts, ls, hD1, hP, hL, nls⟩ ⟨rfl, k, v, qa, hk, rfl, hqa⟩
    obtain ⟨kc, e, hkc, he, rfl, rfl⟩ := ks_nth hes hk
    rw [ck_kV] at hqa
    refine ⟨rfl, _, rfl, Nat.zero_le _, fun l hl => ⟨(by show 2 ≤ sizeLine; decide), fun T hT => ?_⟩⟩
    have s1 : Same H1' (upd H1' l (.lst [])) := same_new hl
    have s2 := s1.trans (same_new (o := .tup [.ref qa, .ref l]) hT)
    have nlD : l ≠ D := fun z => by rw [z, hD1] at hl; cases hl
    have nTl : l ≠ T := fun z => by rw [← z, upd_same] at hT; cases hT
    have nl0 := free_of sH hl
    have nlg : l ≠ g := fun z => by rw [z, upd_same] at nl0; cases nl0
    rw [upd_ne nlg] at nl0
    have i35 : i < 35 := by omega
    have tl : ts.length = (gkv (ks.take i) ls).length := Paired.length hP
    rw [gkv_len hL, List.length_take] at tl
    have hD2 := s2 _ _ hD1
    have t3 := (tst s2).trans (tst_lst (o := .lst (ts.map V.ref ++ [.ref T])) hD2)
    have lD : l ∉ ls := fun z => by
      obtain ⟨j, hj⟩ := List.mem_iff_getElem?.mp z
      obtain ⟨kk, _, h3, _⟩ := paired_get hL hj
      rw [hl] at h3
      cases h3
    refine ⟨_, hD2, by rw [List.length_map]; exact len_lt (by omega), same_upd (sH.trans s2) hD, ts ++ [T], ls ++ [l], by rw [upd_same, List.map_append]; rfl, ?_, ?_, nd_snoc nls lD⟩
    · rw [take_snoc hkc, gkv_snoc hL]
      refine paired_snoc (paired_mono hP fun p kv ⟨b, h1, h2⟩ => ⟨b, t3 _ _ h1, t3 _ _ h2⟩) ⟨qa, ?_, ?_⟩
      · refine tst_lst (o := .lst (ts.map V.ref ++ [.ref T])) hD2 _ _ ?_
        exact upd_same
      · rw [ck_kV]
        exact t3 _ _ hqa
    · rw [take_snoc hkc]
      refine paired_snoc (F := fun k l => _ ∧ _ ∧ _) (paired_mono hL fun k' l' ⟨h1, h2, h3⟩ => ⟨by rw [upd_ne h3]; exact s2 _ _ h1, h2, h3⟩) ⟨?_, nl0, nlD⟩
      rw [upd_ne nlD, upd_ne nTl, upd_same]
  rintro H1 ⟨sH, ts, ls, hD1, hP, hL, nls⟩
  rw [kvl, List.take_length] at hP hL
  have nDg : D ≠ g := fun z => by rw [z, upd_same] at hD; cases hD
  have sU : Same H (upd H1 g (.dT (gkv ks es))) := unlock hg sH
  have tg : Tst H1 (upd H1 g (.dT (gkv ks es))) := tst_upd fun xs z => by rw [sH _ _ upd_same] at z; cases z
  have nlg : ∀ l, H l = none → l ≠ g := fun l h z => by rw [z, hg] at h; cases h
  refine ⟨sH _ _ upd_same, D, ts, gkv ks ls, rfl, by rw [upd_ne nDg]; exact hD1, paired_mono hP fun p kv ⟨b, h1, h2⟩ => ⟨b, tg _ _ h1, tg _ _ h2⟩, by rw [gkv_keys hL]; exact ck_nodup AO.nd, fun A hA => ?_⟩
  have hAH := free_of sU hA
  have sA := same_upd (o := .dT (gkv ks ls)) sU hAH
  have hLn : ∀ l ∈ ls, H l = none := fun l hl => by
    obtain ⟨j, hj⟩ := List.mem_iff_getElem?.mp hl
    obtain ⟨kk, _, _, h3, _⟩ := paired_get hL hj
    exact h3
  have GA : AhAt (upd (upd H1 g (.dT (gkv ks es))) A (.dT (gkv ks ls))) A ks ls (fun _ => []) := by
    refine ⟨upd_same, paired_mono hL fun k l ⟨h1, h2, h3⟩ => ⟨[], ?_, .nil⟩, nls⟩
    have nlA : l ≠ A := fun z => by rw [← z, upd_ne (nlg l h2), h1] at hA; cases hA
    rw [upd_ne nlA, upd_ne (nlg l h2)]
    exact h1
  -- for crowd in graph: for number, behind in graph[crowd]: ahead[behind].append(crowd)
  refine ⟨g, _, sA _ _ hg, trivial, fun od2 => ⟨_, rfl, g, od2, rfl, .inr ⟨_, upd_same, for_it walk_keysT (fun i σ H' => ∃ v3 v4 v5 ah, σ = [some (.ref g), some (.ref gl), some (.ref A), v3, v4, v5, none, none, none, none] ∧ Same (upd H g (.frz od2 (.dT (gkv ks es)))) H' ∧ AhAt H' A ks ls ah ∧
    (∀ k p, p ∈ ah k → p ∈ ks ∧ k ∈ nexts R p) ∧ (∀ k, (ah k).length ≤ i * 100) ∧ (∀ i', i' < i → ∀ p, ks[i']? = some p → ∀ d ∈ nexts R p, p ∈ ah d))
    ⟨none, none, none, fun _ => [], rfl, relock sA, ?_, fun k p hp => (by cases hp), fun k => Nat.zero_le _, fun i' hi' => absurd hi' (by omega)⟩ (fun i σ H' _ ⟨_, _, _, _, _, h, _⟩ => h _ _ upd_same) ?_ ?_⟩⟩⟩
  · have nAg : A ≠ g := fun z => by rw [z, hg] at hAH; cases hAH
    refine ⟨by rw [upd_ne nAg]; exact GA.top, paired_mono hL fun k l ⟨h1, h2, h3⟩ => ⟨[], ?_, .nil⟩, nls⟩
    have nlA : l ≠ A := fun z => by rw [← z, upd_ne (nlg l h2), h1] at hA; cases hA
    rw [upd_ne (nlg l h2), upd_ne nlA, upd_ne (nlg l h2)]
    exact h1
  · rintro i x σ H2 H2' hi ⟨v3, v4, v5, ah, rfl, sH2, G2, a1, a2, a3⟩ ⟨rfl, k, v, qa, hk, rfl, hqa⟩
    obtain ⟨kc, e, hkc, he, rfl, rfl⟩ := ks_nth hes hk
    rw [ck_kV] at hqa
    have hkm : kc ∈ ks := List.mem_of_getElem? hkc
    obtain ⟨e', he', ⟨ts2, ht1, ht2⟩, _⟩ := gkv_val hes hkm
    have neg : e' ≠ g := ne_kind ht1 hg (fun z => nomatch z)
    have hte : ∀ {H'}, Same (upd H g (.frz od2 (.dT (gkv ks es)))) H' → H' e' = some (.lst (ts2.map V.ref)) := fun {H'} s => s _ _ (by rw [upd_ne neg]; exact ht1)
    have htp : ∀ {H'}, Same (upd H g (.frz od2 (.dT (gkv ks es)))) H' → PairsAt H' ts2 (succs R kc) := fun {H'} s => PairsAt.mono ht2 ((tst_lock hg).trans (tst s))
    have slen : (succs R kc).length ≤ 100 := by
      have c1 : (canL R kc).length ≤ R.meets.length := canI_len R kc R.meets.length
      have c2 := F.ok.ml
      unfold succs
      rw [List.length_map]
      omega
    have tsl : ts2.length = (succs R kc).length := Paired.length ht2
    refine ⟨_, rfl, _, rfl, g, _, rfl, dget_t (.inr ⟨_, sH2 _ _ upd_same⟩) hqa he', ?_⟩
    refine ⟨e', rfl, ⟨_, SqL.of (hte sH2)⟩, for_it walk_list (fun j σ H' => ∃ v4 v5 ah, σ = [some (.ref g), some (.ref gl), some (.ref A), some (.ref qa), v4, v5, none, none, none, none] ∧ Same (upd H g (.frz od2 (.dT (gkv ks es)))) H' ∧ AhAt H' A ks ls ah ∧ H' qa = some (iT kc) ∧
      (∀ k p, p ∈ ah k → p ∈ ks ∧ k ∈ nexts R p) ∧ (∀ k, (ah k).length ≤ i * 100 + j) ∧ (∀ i', i' < i → ∀ p, ks[i']? = some p → ∀ d ∈ nexts R p, p ∈ ah d) ∧ (∀ j', j' < j → ∀ x, (succs R kc)[j']? = some x → kc ∈ ah x.2))
      ⟨_, _, ah, rfl, sH2, G2, hqa, a1, a2, a3, fun j' hj' => absurd hj' (by omega)⟩ (fun i σ H' _ ⟨_, _, _, _, h, _⟩ => SqL.of (hte h)) ?_ ?_⟩
    · rintro j x σ H3 H3' hj ⟨w4, w5, ah3, rfl, sH3, G3, hq3, b1, b2, b3, b4⟩ ⟨rfl, hx⟩
      have hj' : j < ts2.length := by rwa [List.length_map] at hj
      obtain ⟨T, hT⟩ : ∃ T, ts2[j]? = some T := ⟨ts2[j], List.getElem?_eq_getElem hj'⟩
      obtain rfl := ref_at hx hT
      obtain ⟨⟨jn, d⟩, hjd, u, hTt, hut⟩ := paired_getL (F := fun t (kb : Nat × List Int) => ∃ b, H3' t = some (.tup [.int (kb.1 : Int), .ref b]) ∧ H3' b = some (iT kb.2)) (htp sH3) hT
      have hdn : d ∈ nexts R kc := by
        rw [nexts_eq]
        exact List.mem_map.mpr ⟨(jn, d), List.mem_of_getElem? hjd, rfl⟩
      obtain ⟨l, bs, hv, hl, hb, hll⟩ := G3.at (AO.next hkm hdn)
      have bl : bs.length = (ah3 d).length := Paired.length hb
      have bd := b2 d
      refine ⟨T, _, rfl, Rd.of hTt, rfl, _, _, rfl, _, _, rfl, rfl, ?_⟩
      refine ⟨_, rfl, _, rfl, A, _, rfl, dget_t (Rd.of G3.top) hut hv, .inl ⟨rfl, _, SqL.of hl⟩, _, rfl, l, _, _, rfl, rfl, hl, by rw [List.length_map]; exact (Nat.lt_of_lt_of_le (m := 100000) (by omega) (by decide)), ?_⟩
      refine ⟨_, _, _, rfl, same_upd sH3 (rel_none hg (hLn l hll)), G3.push AO.nd hv hl hb hq3, tst_lst hl _ _ hq3, fun k p hp => ?_, fun k => ?_, fun i' hi' p hp d' hd' => ?_, fun j' hj' x hxx => ?_⟩
      · by_cases z : k = d
        · rw [if_pos z] at hp
          rcases List.mem_append.mp hp with h | h
          · exact z ▸ b1 d p h
          · rw [List.mem_singleton.mp h, z]
            exact ⟨hkm, hdn⟩
        · rw [if_neg z] at hp
          exact b1 k p hp
      · by_cases z : k = d
        · rw [if_pos z, List.length_append]
          show (ah3 d).length + 1 ≤ i * 100 + (j + 1)
          omega
        · rw [if_neg z]
          have := b2 k
          omega
      · have := b3 i' hi' p hp d' hd'
        by_cases z : d' = d
        · rw [if_pos z]
          exact List.mem_append_left _ (z ▸ this)
        · rw [if_neg z]
          exact this
      · by_cases z : x.2 = d
        · rw [if_pos z]
          rcases Nat.lt_or_ge j' j with h | h
          · exact List.mem_append_left _ (z ▸ b4 j' h x hxx)
          · exact List.mem_append_right _ List.mem_cons_self
        · rw [if_neg z]
          rcases Nat.lt_or_ge j' j with h | h
          · exact b4 j' h x hxx
          · have : j' = j := by omega
            subst this
            rw [hjd] at hxx
            exact absurd (by rw [← Option.some.inj hxx]) z
    · rintro σ H3 ⟨w4, w5, ah3, rfl, sH3, G3, hq3, b1, b2, b3, b4⟩
      refine ⟨_, _, _, _, rfl, sH3, G3, b1, fun k => ?_, fun i' hi' p hp d hd => ?_⟩
      · have := b2 k
        rw [List.length_map, tsl] at this
        show _ ≤ (i + 1) * 100
        omega
      · rcases Nat.lt_or_ge i' i with h | h
        · exact b3 i' h p hp d hd
        · have : i' = i := by omega
          subst this
          rw [hkc] at hp
          obtain rfl := Option.some.inj hp
          rw [nexts_eq] at hd
          obtain ⟨x, hx, rfl⟩ := List.mem_map.mp hd
          obtain ⟨j, hj, ej⟩ := List.mem_iff_getElem.mp hx
          exact b4 j (by rw [List.length_map]; omega) x (by rw [List.getElem?_eq_getElem hj, ej])
  rintro σ H2 ⟨v3, v4, v5, ah, rfl, sH2, G2, a1, a2, a3⟩
  rw [kvl] at a2 a3
  refine ⟨sH2 _ _ upd_same, ?_⟩
  have sU2 : Same H (upd H2 g (.dT (gkv ks es))) := unlock hg sH2
  have nAg : A ≠ g := fun z => by rw [z, hg] at hAH; cases hAH
  have tg2 : Tst H2 (upd H2 g (.dT (gkv ks es))) := tst_upd fun xs z => by rw [sH2 _ _ upd_same] at z; cases z
  have G3 : AhAt (upd H2 g (.dT (gkv ks es))) A ks ls ah := ⟨by rw [upd_ne nAg]; exact G2.top, paired_mono G2.lsts fun k l ⟨bs, h1, h2⟩ => ⟨bs, by rw [upd_ne (ne_kind h1 (sH2 _ _ upd_same) (fun z => nomatch z))]; exact h1, tups_mono h2 tg2⟩, G2.nd⟩
  generalize hH3 : upd H2 g (.dT (gkv ks es)) = H3 at sU2 G3
  clear hH3
  -- found = dict([(goal, 0) for goal in goals])
  have hgl3 := sU2 _ _ hgl
  refine ⟨_, rfl, gl, rfl, ⟨_, SqL.of hgl3⟩, fun D2 hD2 => lc_it walk_list (fun i H' => Same H3 H' ∧ ∃ ts, H' D2 = some (.lst (ts.map V.ref)) ∧ PairsT H' ts (fkv (rkV fun _ => 0) (gs.take i)))
    ⟨same_new hD2, [], upd_same, .nil⟩ (fun i H' _ h => SqL.of (h.1 _ _ hgl3)) ?_ ?_⟩
  · rintro i x H4 H4' hi ⟨sH4, ts3, e4, p4⟩ ⟨rfl, hx⟩
    have hi' : i < gt.length := by rwa [List.length_map] at hi
    have gtl : gt.length = gs.length := Paired.length hgt
    obtain ⟨T, hT⟩ : ∃ T, gt[i]? = some T := ⟨gt[i], List.getElem?_eq_getElem hi'⟩
    obtain rfl := ref_at hx hT
    obtain ⟨kc, hkc, hTk⟩ := paired_getL (F := fun t (ns : List Int) => H t = some (.tup (ns.map V.int))) hgt hT
    refine ⟨rfl, _, rfl, (by show 2 ≤ sizeLine; decide), fun U hU => ?_⟩
    have s5 := same_new (o := .tup [.ref T, .int 0]) hU
    have e5 := s5 _ _ e4
    have t5 := (tst s5).trans (tst_lst (o := .lst (ts3.map V.ref ++ [.ref U])) e5)
    have tl : ts3.length = _ := Paired.length p4
    rw [fkv_len, List.length_take] at tl
    refine ⟨_, e5, by rw [List.length_map]; exact len_lt (by omega), same_upd (sH4.trans s5) hD2, ts3 ++ [U], by rw [upd_same, List.map_append]; rfl, ?_⟩
    have e6 : fkv (rkV fun _ => 0) (gs.take (i + 1)) = fkv (rkV fun _ => 0) (gs.take i) ++ [(ck kc, V.int 0)] := by
      rw [take_snoc hkc]
      unfold fkv
      rw [List.map_append]
      rfl
    rw [e6]
    refine paired_snoc (paired_mono p4 fun p kv ⟨b, h1, h2⟩ => ⟨b, t5 _ _ h1, t5 _ _ h2⟩) ⟨T, tst_lst (o := .lst (ts3.map V.ref ++ [.ref U])) e5 _ _ upd_same, ?_⟩
    rw [ck_kV]
    exact t5 _ _ (tst (sU2.trans sH4) _ _ hTk)
  rintro H4 ⟨sH4, ts3, e4, p4⟩
  have gtl : (gt.map V.ref).length = gs.length := by rw [List.length_map]; exact Paired.length hgt
  rw [gtl, List.take_length] at p4
  refine ⟨D2, ts3, fkv (rkV fun _ => 0) gs, rfl, e4, p4, by rw [fkv_keys]; exact ck_nodup ngs, fun fa hfa => ?_⟩
  have s5 : Same H4 (upd H4 fa (.dT (fkv (rkV fun _ => 0) gs))) := same_new hfa
  -- line = list(goals); at = 0
  refine ⟨_, rfl, gl, _, rfl, .inl (Rd.of (s5 _ _ (sH4 _ _ hgl3))), fun la hla => ?_⟩
  have nlf : la ≠ fa := fun z => by rw [z, upd_same] at hla; cases hla
  have hla4 := free_of s5 hla
  have s6 := same_upd (o := .lst (gt.map V.ref)) s5 hla4
  have sH6 := sU2.trans sH4
  refine ⟨fun m σ H' => ∃ fs lt rk v3, ∃ at_ : Nat, σ = [some (.ref g), some (.ref gl), some (.ref A), v3, v4, v5, some (.ref fa), some (.ref la), some (.int (at_ : Int)), none] ∧ RkI H4 R ks gs fa la fs lt rk H' ∧ at_ ≤ fs.length ∧
    (∀ i, i < at_ → ∀ k, fs[i]? = some k → ∀ p ∈ ah k, p ∈ fs) ∧ m + at_ = 36, ⟨36, gs, gt, fun _ => 0, _, 0, rfl, ?_, Nat.zero_le _, fun i hi => absurd hi (by omega), rfl⟩, ?_⟩
  · refine ⟨s6, upd_same, tups_mono hgt (tst (sH6.trans s6)), by rw [upd_ne nlf.symm, upd_same], ngs, sgs, fun k hk => ⟨k, .refl, hk⟩, fun k hk _ => hk, fun k _ z => absurd z (by decide), fun k hk => hk⟩
  rintro m σ H5 ⟨fs, lt, rk, w3, at_, rfl, G5, hat, hpre, hm⟩
  have f35 : fs.length ≤ 35 := F.few G5.nd fun k hk => (AO.all k).mp (G5.sub k hk)
  have hlt : lt.length = fs.length := Paired.length G5.tups
  refine ⟨_, rfl, _, rfl, la, _, rfl, .inl (Rd.of G5.line), _, _, rfl, rfl, _, rfl, ?_⟩
  refine ite2 (fun hc => ?_) (fun hc => ?_)
  · have hc' : (at_ : Int) < (((lt.map V.ref).length : Nat) : Int) := of_decide_eq_true hc
    rw [List.length_map, hlt] at hc'
    have hal : at_ < fs.length := by omega
    obtain ⟨k, hk⟩ : ∃ k, fs[at_]? = some k := ⟨fs[at_], List.getElem?_eq_getElem hal⟩
    have hkm : k ∈ fs := List.mem_of_getElem? hk
    obtain ⟨b, hb, hbk⟩ := paired_get (F := fun t ns => H5 t = some (.tup (ns.map V.int))) G5.tups hk
    have G6 := G3.mono (sH4.trans G5.same)
    obtain ⟨l, bs, hv, hl, hbs, hll⟩ := (G3.mono sH4).at (G5.sub k hkm)
    have bsl : bs.length = (ah k).length := Paired.length hbs
    refine ⟨fun σ' H' => ∃ fs lt rk v3, ∃ at' : Nat, σ' = [some (.ref g), some (.ref gl), some (.ref A), v3, v4, v5, some (.ref fa), some (.ref la), some (.int (at' : Int)), none] ∧ RkI H4 R ks gs fa la fs lt rk H' ∧ at' ≤ fs.length ∧
      (∀ i, i < at' → ∀ k, fs[i]? = some k → ∀ p ∈ ah k, p ∈ fs) ∧ (m - 1) + at' = 36, ?_, ?_⟩
    · rintro σ' H' ⟨fs', lt', rk', w3', at', h⟩
      exact ⟨m - 1, by omega, fs', lt', rk', w3', at', h⟩
    refine ⟨_, rfl, _, rfl, _, rfl, la, _, _, _, rfl, rfl, Rd.of G5.line, at_nat (v := .ref b) (by rw [List.getElem?_map, hb]; rfl), A, _, rfl, dget_t (Rd.of G6.top) hbk hv, ?_⟩
    refine ⟨l, rfl, ⟨_, SqL.of (G5.same _ _ hl)⟩, for_it walk_list (fun j σ H' => ∃ t lt rk v3, σ = [some (.ref g), some (.ref gl), some (.ref A), v3, v4, v5, some (.ref fa), some (.ref la), some (.int (at_ : Int)), none] ∧ RkI H4 R ks gs fa la (fs ++ t) lt rk H' ∧
      (∀ j', j' < j → ∀ p, (ah k)[j']? = some p → p ∈ fs ++ t)) ⟨[], lt, rk, _, rfl, by rw [List.append_nil]; exact G5, fun j' hj' => absurd hj' (by omega)⟩ (fun i σ H' _ ⟨_, _, _, _, _, h, _⟩ => SqL.of (h.same _ _ hl)) ?_ ?_⟩
    · rintro j x σ H6 H6' hj ⟨t, lt6, rk6, w6, rfl, G6, c6⟩ ⟨rfl, hx⟩
      have hj' : j < bs.length := by rwa [List.length_map] at hj
      obtain ⟨u, hu6⟩ : ∃ T, bs[j]? = some T := ⟨bs[j], List.getElem?_eq_getElem hj'⟩
      obtain rfl := ref_at hx hu6
      obtain ⟨p, hjp, hup⟩ := paired_getL (F := fun t (ns : List Int) => H4 t = some (.tup (ns.map V.int))) hbs hu6
      have hup6 := tst G6.same _ _ hup
      have hpm := a1 k p (List.mem_of_getElem? hjp)
      have hk6 : (fs ++ t)[at_]? = some k := by rw [List.getElem?_append_left hal]; exact hk
      have hkm6 : k ∈ fs ++ t := List.mem_append_left _ hkm
      obtain ⟨b6, hb6, hbk6⟩ := paired_get (F := fun t ns => H6' t = some (.tup (ns.map V.int))) G6.tups hk6
      have l6 : (fs ++ t).length ≤ 35 := F.few G6.nd fun k hk => (AO.all k).mp (G6.sub k hk)
      have lt6l : lt6.length = (fs ++ t).length := Paired.length G6.tups
      refine ⟨_, rfl, _, rfl, fa, _, rfl, dget_t (Rd.of G6.found) hup6 rfl, _, rfl, ?_⟩
      rw [fkv_val]
      by_cases hp : p ∈ fs ++ t
      · rw [if_pos hp]
        refine iteF ⟨t, lt6, rk6, _, rfl, G6, fun j' hj' p' hp' => ?_⟩
        rcases Nat.lt_or_ge j' j with z | z
        · exact c6 j' z p' hp'
        · have : j' = j := by omega
          subst this
          rw [hjp] at hp'
          rw [← Option.some.inj hp']
          exact hp
      · rw [if_neg hp]
        have hix6 : atI (lt6.map V.ref) (at_ : Int) = some (.ref b6) := at_nat (by rw [List.getElem?_map, hb6]; rfl)
        have ul : upd H6' fa (.dT (putK (fkv (rkV rk6) (fs ++ t)) (ck p) (.int ((rk6 k : Int) + 1)))) la = some (.lst (lt6.map V.ref)) := by rw [upd_ne nlf]; exact G6.line
        refine iteT ⟨_, rfl, _, rfl, _, rfl, la, _, _, _, rfl, rfl, Rd.of G6.line, hix6, fa, _, rfl, dget_t (Rd.of G6.found) hbk6 (v := some (rkV rk6 k)) (by rw [fkv_val, if_pos hkm6]), _, _, rfl, rfl, ?_⟩
        refine ⟨_, rfl, _, rfl, fa, _, rfl, dput_t G6.found hup6 (by rw [fkv_len]; exact len_lt (by omega)), ?_⟩
        refine ⟨_, rfl, .inl ⟨rfl, _, SqL.of ul⟩, _, rfl, la, _, _, rfl, rfl, ul, by rw [List.length_map]; exact len_lt (by omega), ?_⟩
        have G7 := G6.push hup6 hp hpm.1 hkm6 hpm.2 hla4 hfa
        rw [List.append_assoc] at G7
        refine ⟨t ++ [p], lt6 ++ [u], _, _, rfl, G7, fun j' hj' p' hp' => ?_⟩
        rw [← List.append_assoc]
        rcases Nat.lt_or_ge j' j with z | z
        · exact List.mem_append_left _ (c6 j' z p' hp')
        · have : j' = j := by omega
          subst this
          rw [hjp] at hp'
          rw [← Option.some.inj hp']
          exact List.mem_append_right _ List.mem_cons_self
    · rintro σ H6 ⟨t, lt6, rk6, w6, rfl, G6, c6⟩
      rw [List.length_map, bsl] at c6
      refine ⟨_, rfl, _, _, rfl, rfl, fs ++ t, lt6, rk6, w6, at_ + 1, rfl, G6, by rw [List.length_append]; omega, fun i hi k' hk' p hp => ?_, by omega⟩
      rcases Nat.lt_or_ge i at_ with z | z
      · rw [List.getElem?_append_left (by omega)] at hk'
        exact List.mem_append_left _ (hpre i z k' hk' p hp)
      · have : i = at_ := by omega
        subst this
        rw [List.getElem?_append_left hal, hk] at hk'
        obtain rfl := Option.some.inj hk'
        obtain ⟨j, hj, ej⟩ := List.mem_iff_getElem.mp hp
        exact c6 j hj p (by rw [List.getElem?_eq_getElem hj, ej])
  · have hc' : ¬ (at_ : Int) < (((lt.map V.ref).length : Nat) : Int) := fun z => hc (decide_eq_true z)
    rw [List.length_map, hlt] at hc'
    have e : at_ = fs.length := by omega
    subst e
    refine ⟨_, rfl, q H5 fa fs rk (sH6.trans G5.same) (free_of sH6 hfa) G5.found ⟨G5.nd, G5.sub, fun k hk => ⟨G5.lead k, fun ⟨d, hd, hdg⟩ => ?_⟩, G5.zero, G5.fall⟩⟩
    refine Comes.back (p := fun x => x ∈ fs) hd (G5.gin d hdg) fun x y hx hy hyf => ?_
    obtain ⟨i, hi⟩ := List.mem_iff_getElem?.mp hyf
    have hil := (List.getElem?_eq_some_iff.mp hi).1
    have hxk : x ∈ ks := AO.comes hk hx
    obtain ⟨j, hj⟩ := List.mem_iff_getElem?.mp hxk
    exact hpre i hil y hi x (a3 j (List.getElem?_eq_some_iff.mp hj).1 x hj y hy)
end
end PB
namespace PB
open PySem PySem.Spec PyProof.Rows L2
theorem ifW {b : Bool} (h : b = false) {A B : Prop} (x : B) : if b = true then A else B := by
  rw [h]
  exact iteF x
theorem ifY {b : Bool} (h : b = true) {A B : Prop} (x : A) : if b = true then A else B := by
  rw [h]
  exact iteT x
theorem SomeOk.lt {k : Nat} {s : List Nat} (h : SomeOk k s) : ∀ i ∈ s, i < k := fun i hi => by
  unfold SomeOk at h
  rw [h] at hi
  exact List.mem_range.mp (List.mem_filter.mp hi).1
theorem SomeOk.len {k : Nat} {s : List Nat} (h : SomeOk k s) : s.length ≤ k := by
  unfold SomeOk at h
  rw [h]
  have := List.length_filter_le (fun i => decide (i ∈ s)) (List.range k)
  rwa [List.length_range] at this
theorem take_getD {s : List Nat} {i : Nat} (h : i < s.length) : s.take (i + 1) = s.take i ++ [s.getD i 0] := by
  rw [List.take_add_one, List.getD_eq_getElem?_getD, List.getElem?_eq_getElem h]
  rfl
theorem handsOf_take {s : List Nat} {cs : List Int} {i j : Nat} (h : s[i]? = some j) : handsOf (s.take (i + 1)) cs = handsOf (s.take i) cs + cs.getD j 0 := by
  unfold handsOf
  rw [List.take_add_one, h, List.map_append, List.sum_append]
  simp
section
variable {P : Program} {w : World} {K : PySem.W.Frag} {mg : Str → Option Value} {base : Heap}
def spHandsOf : Sp := fun vs H Q _ => ∃ (b a : Addr) (s : List Nat) (cs : List Int), vs = [.ref b, .ref a] ∧ H b = some (.tup (nV s)) ∧ H a = some (iT cs) ∧ (∀ i ∈ s, i < cs.length) ∧ s.length ≤ 100 ∧ ∀ H', Same H H' → Q (.int (handsOf s cs)) H'
theorem d_hands_of (Z : BN mg) (A : At K mg "hands_of" s_hands_of ["some", "counts"]) : Def P w K mg base 1 "hands_of" ["some", "counts"] [] spHandsOf := by
  refine A.def sc_hands_of (fun vs H Q E h => ?_) (fun f cdv A outer s H vs Q E hr h => ?_)
  · obtain ⟨b, a, s, cs, rfl, _⟩ := h
    rfl
  obtain ⟨b, a, s, cs, rfl, hb, ha, hs, hl, q⟩ := h
  refine ⟨_, (pss_one (ps_ret (pe_callB (cr_sum0 rfl) (by rfl) Z.sum (by decide +kernel) (pa_cons (pe_lc (own := [("sort", 2)]) (g := (gName 2)) rfl sc_hands_of.nd (pi_tup (pv 0)) (blkOk_by (own := [("sort", 2)]) (N := N_hands_of) (sc := defScope s_hands_of) (by decide +kernel)) (fun _ _ _ _ _ => (pg_name (i := 2) sc_hands_of.nd rfl (Or.inl rfl))) (fun _ _ _ _ _ => pts_nil) (fun _ _ _ _ _ => (pe_ix ix_tup0 (pv 1) (pv 2) (fun _ _ => rfl)))) pa_nil)))), ?_⟩
  refine ⟨_, rfl, b, rfl, ⟨_, SqT.of hb⟩, fun D hD => lc_tup (K := K) (a := b) (xs := nV s) (fun i H' => Same H H' ∧ H' D = some (.lst (((s.take i).map fun i => cs.getD i 0).map V.int)))
    ⟨same_new hD, upd_same⟩ (fun i H' _ h => SqT.of (h.1 _ _ hb)) ?_ ?_⟩
  · rintro i x H1 hxi ⟨sH, hD1⟩
    have hi : i < s.length := by
      have := (List.getElem?_eq_some_iff.mp hxi).1
      rwa [List.length_map] at this
    rw [get_nat hi] at hxi
    obtain rfl := Option.some.inj hxi
    have hm : s.getD i 0 ∈ s := by
      rw [List.getD_eq_getElem?_getD, List.getElem?_eq_getElem hi]
      exact List.getElem_mem hi
    refine ⟨rfl, _, rfl, _, rfl, a, _, _, _, rfl, rfl, Rd.of (sH _ _ ha), at_int (hs _ hm), _, hD1, ?_, same_upd sH hD, ?_⟩
    · rw [List.length_map, List.length_map, List.length_take]
      exact len_lt (by omega)
    · rw [upd_same, take_getD hi, List.map_append, List.map_append]
      rfl
  · rintro H1 ⟨sH, hD1⟩
    rw [List.length_map, List.take_length] at hD1
    exact ⟨D, _, rfl, Rd.of hD1, q H1 sH⟩
def spHolds (d : Nat) : Sp := fun vs H Q _ => ∃ (b a : Addr) (q : Qn) (cs : List Int), vs = [.ref b, .ref a] ∧ q.dp < d ∧ q.Ok cs.length ∧ cs.length ≤ 100 ∧ QAt H q b ∧ H a = some (iT cs) ∧ ∀ H', Same H H' → Q (.bl (q.truth cs)) H'
theorem d_holds (Z : BN mg) (A : At K mg "holds" s_holds ["question", "counts"]) (D_hands_of : Def P w K mg base 1 "hands_of" ["some", "counts"] [] spHandsOf) : ∀ d, Def P w K mg base (d + 1) "holds" ["question", "counts"] [] (spHolds d)
  | 0 => A.def sc_holds (fun vs H Q E ⟨b, a, q, cs, _, h, _⟩ => absurd h (Nat.not_lt_zero _)) fun f cdv A outer s H vs Q E hr ⟨b, a, q, cs, _, h, _⟩ => absurd h (Nat.not_lt_zero _)
  | d + 1 => by
    have D_holds := d_holds Z A D_hands_of d
    refine A.def sc_holds (fun vs H Q E h => ?_) (fun f cdv A outer s H vs Q E hr h => ?_)
    · obtain ⟨b, a, q, cs, rfl, _⟩ := h
      rfl
    obtain ⟨b, a, q, cs, rfl, hd, hk, hc, hb, ha, q'⟩ := h
    refine ⟨_, (pss_cons (ps_set (i := 2) sc_holds.nd rfl (Or.inl rfl) (pe_ix ix_tup0 (pv 0) pe_int (fun _ _ => rfl)))
    (pss_cons (ps_if (pt_cmpR op_eq (pv 2) pe_str (by first | exact nomark _ | rfl)) (pss_one (ps_ret (pe_not (pe_def D_holds hr rfl (pa_cons (pe_ix ix_tup0 (pv 0) pe_int (fun _ _ => rfl)) (pa_cons (pv 1) pa_nil)))))) pss_nil)
    (pss_cons (ps_if (pt_cmpR op_eq (pv 2) pe_str (by first | exact nomark _ | rfl)) (pss_one (ps_ret (pe_and (pe_def D_holds hr rfl (pa_cons (pe_ix ix_tup0 (pv 0) pe_int (fun _ _ => rfl)) (pa_cons (pv 1) pa_nil))) (pe_one (pe_def D_holds hr rfl (pa_cons (pe_ix ix_tup0 (pv 0) pe_int (fun _ _ => rfl)) (pa_cons (pv 1) pa_nil))))))) pss_nil)
    (pss_cons (ps_if (pt_cmpR op_eq (pv 2) pe_str (by first | exact nomark _ | rfl)) (pss_one (ps_ret (pe_or (pe_def D_holds hr rfl (pa_cons (pe_ix ix_tup0 (pv 0) pe_int (fun _ _ => rfl)) (pa_cons (pv 1) pa_nil))) (pe_one (pe_def D_holds hr rfl (pa_cons (pe_ix ix_tup0 (pv 0) pe_int (fun _ _ => rfl)) (pa_cons (pv 1) pa_nil))))))) pss_nil)
    (pss_cons (ps_if (pt_cmpR op_eq (pv 2) pe_str (by first | exact nomark _ | rfl)) (pss_one (ps_ret (pe_cmpR op_ge (pe_def D_hands_of hr rfl (pa_cons (pe_ix ix_tup0 (pv 0) pe_int (fun _ _ => rfl)) (pa_cons (pv 1) pa_nil))) (pe_ix ix_tup0 (pv 0) pe_int (fun _ _ => rfl)) (by first | exact nomark _ | rfl)))) pss_nil)
    (pss_cons (ps_if (pt_cmpR op_eq (pv 2) pe_str (by first | exact nomark _ | rfl)) (pss_one (ps_ret (pe_cmpR op_gt (pe_def D_hands_of hr rfl (pa_cons (pe_ix ix_tup0 (pv 0) pe_int (fun _ _ => rfl)) (pa_cons (pv 1) pa_nil))) (pe_def D_hands_of hr rfl (pa_cons (pe_ix ix_tup0 (pv 0) pe_int (fun _ _ => rfl)) (pa_cons (pv 1) pa_nil))) (by first | exact nomark _ | rfl)))) pss_nil)
    (pss_one (ps_ret (pe_cmpR op_eq (pe_op op_mod (pe_def D_hands_of hr rfl (pa_cons (pe_ix ix_tup0 (pv 0) pe_int (fun _ _ => rfl)) (pa_cons (pv 1) pa_nil))) (pe_ix ix_tup0 (pv 0) pe_int (fun _ _ => rfl))) (pe_ix ix_tup0 (pv 0) pe_int (fun _ _ => rfl)) (by first | exact nomark _ | rfl)))))))))), ?_⟩
    cases q with
    | least s n =>
      obtain ⟨b1, h1, h2⟩ := hb
      refine ⟨_, rfl, b, _, _, _, rfl, rfl, Rd.of h1, at_nat (j := 0) rfl, ?_⟩
      refine ⟨_, rfl, rfl, _, rfl, ifW (by decide +kernel) ?_⟩
      refine ⟨_, rfl, rfl, _, rfl, ifW (by decide +kernel) ?_⟩
      refine ⟨_, rfl, rfl, _, rfl, ifW (by decide +kernel) ?_⟩
      refine ⟨_, rfl, rfl, _, rfl, ifY (by decide +kernel) ?_⟩
      refine ⟨_, rfl, b, _, _, _, rfl, rfl, Rd.of h1, at_nat (j := 1) rfl, _, rfl, b1, a, s, cs, rfl, h2, ha, SomeOk.lt hk, Nat.le_trans (SomeOk.len hk) hc, fun H' sH => ?_⟩
      refine ⟨_, rfl, b, _, _, _, rfl, rfl, Rd.of (sH _ _ h1), at_nat (j := 2) rfl, _, _, rfl, rfl, ?_⟩
      exact q' _ sH
    | more s t =>
      obtain ⟨b1, b2, h1, h2, h3⟩ := hb
      obtain ⟨k1, k2⟩ := hk
      refine ⟨_, rfl, b, _, _, _, rfl, rfl, Rd.of h1, at_nat (j := 0) rfl, ?_⟩
      refine ⟨_, rfl, rfl, _, rfl, ifW (by decide +kernel) ?_⟩
      refine ⟨_, rfl, rfl, _, rfl, ifW (by decide +kernel) ?_⟩
      refine ⟨_, rfl, rfl, _, rfl, ifW (by decide +kernel) ?_⟩
      refine ⟨_, rfl, rfl, _, rfl, ifW (by decide +kernel) ?_⟩
      refine ⟨_, rfl, rfl, _, rfl, ifY (by decide +kernel) ?_⟩
      refine ⟨_, rfl, b, _, _, _, rfl, rfl, Rd.of h1, at_nat (j := 1) rfl, _, rfl, b1, a, s, cs, rfl, h2, ha, SomeOk.lt k1, Nat.le_trans (SomeOk.len k1) hc, fun H' sH => ?_⟩
      refine ⟨_, rfl, b, _, _, _, rfl, rfl, Rd.of (sH _ _ h1), at_nat (j := 2) rfl, _, rfl, b2, a, t, cs, rfl, sH _ _ h3, sH _ _ ha, SomeOk.lt k2, Nat.le_trans (SomeOk.len k2) hc, fun H2 sH2 => ?_⟩
      exact ⟨_, _, rfl, rfl, q' _ (sH.trans sH2)⟩
    | rest s m r =>
      obtain ⟨b1, h1, h2⟩ := hb
      obtain ⟨k1, k2, k3⟩ := hk
      refine ⟨_, rfl, b, _, _, _, rfl, rfl, Rd.of h1, at_nat (j := 0) rfl, ?_⟩
      refine ⟨_, rfl, rfl, _, rfl, ifW (by decide +kernel) ?_⟩
      refine ⟨_, rfl, rfl, _, rfl, ifW (by decide +kernel) ?_⟩
      refine ⟨_, rfl, rfl, _, rfl, ifW (by decide +kernel) ?_⟩
      refine ⟨_, rfl, rfl, _, rfl, ifW (by decide +kernel) ?_⟩
      refine ⟨_, rfl, rfl, _, rfl, ifW (by decide +kernel) ?_⟩
      refine ⟨_, rfl, b, _, _, _, rfl, rfl, Rd.of h1, at_nat (j := 1) rfl, _, rfl, b1, a, s, cs, rfl, h2, ha, SomeOk.lt k1, Nat.le_trans (SomeOk.len k1) hc, fun H' sH => ?_⟩
      refine ⟨_, rfl, b, _, _, _, rfl, rfl, Rd.of (sH _ _ h1), at_nat (j := 2) rfl, _, _, rfl, rfl, (by show 0 < m; omega), ?_⟩
      refine ⟨_, rfl, b, _, _, _, rfl, rfl, Rd.of (sH _ _ h1), at_nat (j := 3) rfl, rfl, ?_⟩
      have := q' _ sH
      show Q (.bl (decide (V.int (handsOf s cs % m) = V.int r))) H'
      rw [dec_int]
      exact this
    | nt q =>
      obtain ⟨b1, h1, h2⟩ := hb
      have hd' : q.dp < d := by
        have : q.dp + 1 < d + 1 := hd
        omega
      refine ⟨_, rfl, b, _, _, _, rfl, rfl, Rd.of h1, at_nat (j := 0) rfl, ?_⟩
      refine ⟨_, rfl, rfl, _, rfl, ifY (by decide +kernel) ?_⟩
      refine ⟨_, rfl, b, _, _, _, rfl, rfl, Rd.of h1, at_nat (j := 1) rfl, _, rfl, b1, a, q, cs, rfl, hd', hk, hc, h2, ha, fun H' sH => ?_⟩
      exact ⟨_, rfl, q' _ sH⟩
    | both p q =>
      obtain ⟨b1, b2, h1, h2, h3⟩ := hb
      obtain ⟨k1, k2⟩ := hk
      have hd' : p.dp < d ∧ q.dp < d := by
        have : max p.dp q.dp + 1 < d + 1 := hd
        omega
      refine ⟨_, rfl, b, _, _, _, rfl, rfl, Rd.of h1, at_nat (j := 0) rfl, ?_⟩
      refine ⟨_, rfl, rfl, _, rfl, ifW (by decide +kernel) ?_⟩
      refine ⟨_, rfl, rfl, _, rfl, ifY (by decide +kernel) ?_⟩
      refine ⟨_, rfl, b, _, _, _, rfl, rfl, Rd.of h1, at_nat (j := 1) rfl, _, rfl, b1, a, p, cs, rfl, hd'.1, k1, hc, h2, ha, fun H' sH => ?_⟩
      refine ⟨_, rfl, ?_⟩
      have q2 : ∀ H', Same H H' → Q (.bl (p.truth cs && q.truth cs)) H' := q'
      refine ite2 (fun hp => ?_) (fun hp => ?_)
      · rw [hp] at q2
        exact ⟨_, rfl, b, _, _, _, rfl, rfl, Rd.of (sH _ _ h1), at_nat (j := 2) rfl, _, rfl, b2, a, q, cs, rfl, hd'.2, k2, hc, h3.mono (tst sH), sH _ _ ha, fun H2 sH2 => q2 _ (sH.trans sH2)⟩
      · rw [Bool.eq_false_iff.mpr hp] at q2
        exact q2 _ sH
    | either p q =>
      obtain ⟨b1, b2, h1, h2, h3⟩ := hb
      obtain ⟨k1, k2⟩ := hk
      have hd' : p.dp < d ∧ q.dp < d := by
        have : max p.dp q.dp + 1 < d + 1 := hd
        omega
      refine ⟨_, rfl, b, _, _, _, rfl, rfl, Rd.of h1, at_nat (j := 0) rfl, ?_⟩
      refine ⟨_, rfl, rfl, _, rfl, ifW (by decide +kernel) ?_⟩
      refine ⟨_, rfl, rfl, _, rfl, ifW (by decide +kernel) ?_⟩
      refine ⟨_, rfl, rfl, _, rfl, ifY (by decide +kernel) ?_⟩
      refine ⟨_, rfl, b, _, _, _, rfl, rfl, Rd.of h1, at_nat (j := 1) rfl, _, rfl, b1, a, p, cs, rfl, hd'.1, k1, hc, h2, ha, fun H' sH => ?_⟩
      refine ⟨_, rfl, ?_⟩
      have q2 : ∀ H', Same H H' → Q (.bl (p.truth cs || q.truth cs)) H' := q'
      refine ite2 (fun hp => ?_) (fun hp => ?_)
      · rw [hp] at q2
        exact q2 _ sH
      · rw [Bool.eq_false_iff.mpr hp] at q2
        exact ⟨_, rfl, b, _, _, _, rfl, rfl, Rd.of (sH _ _ h1), at_nat (j := 2) rfl, _, rfl, b2, a, q, cs, rfl, hd'.2, k2, hc, h3.mono (tst sH), sH _ _ ha, fun H2 sH2 => q2 _ (sH.trans sH2)⟩
def spTruthWord : Sp := fun vs H Q _ => ∃ (b a : Addr) (q : Qn) (cs : List Int), vs = [.ref b, .ref a] ∧ q.dp < 3 ∧ q.Ok cs.length ∧ cs.length ≤ 100 ∧ QAt H q b ∧ H a = some (iT cs) ∧ ∀ H', Same H H' → Q (.str (wordOf (q.truth cs))) H'
theorem d_truth_word (Z : BN mg) (A : At K mg "truth_word" s_truth_word ["question", "counts"]) (D_holds : Def P w K mg base 4 "holds" ["question", "counts"] [] (spHolds 3)) : Def P w K mg base 5 "truth_word" ["question", "counts"] [] spTruthWord := by
  refine A.def sc_truth_word (fun vs H Q E h => ?_) (fun f cdv A outer s H vs Q E hr h => ?_)
  · obtain ⟨b, a, q, cs, rfl, _⟩ := h
    rfl
  obtain ⟨b, a, q, cs, rfl, hd, hk, hc, hb, ha, q'⟩ := h
  refine ⟨_, (pss_one (ps_ret (pe_ifExp (pt_val (pe_def D_holds hr rfl (pa_cons (pv 0) (pa_cons (pv 1) pa_nil)))) pe_str pe_str))), ?_⟩
  refine ⟨_, rfl, _, rfl, b, a, q, cs, rfl, hd, hk, hc, hb, ha, fun H' sH => ?_⟩
  refine ⟨_, rfl, ?_⟩
  have := q' _ sH
  unfold wordOf at this
  cases e : q.truth cs with
  | true =>
    rw [e] at this
    exact iteT this
  | false =>
    rw [e] at this
    exact iteF this
end
end PB
namespace PB
open PySem PySem.Spec PyProof.Rows L2
theorem GraphAt.mono {H H' : Hp} {g : Addr} {R : Rule} {ks : List (List Int)} (G : GraphAt H g R ks) (s : Same H H') : GraphAt H' g R ks := by
  obtain ⟨es, h1, h2⟩ := G.ex
  exact ⟨es, s _ _ h1, paired_mono h2 fun k e z => z.mono (tst s) fun xs h => s _ _ h⟩
/-- the law's own question of a rule's answer -/
structure Asked (R : Rule) (q : Qn) (cs : List Int) : Prop where
  ok : R.Ok
  dp : q.dp < 3
  qok : q.Ok cs.length
  bg : BeginOk R cs
theorem Asked.few {R : Rule} {q : Qn} {cs : List Int} (A : Asked R q cs) : Few R (beginC R cs) := ⟨A.ok, cs.sum, A.bg.sum1, A.bg.sum4, beginC_cr A.ok A.bg⟩
theorem Asked.len {R : Rule} {q : Qn} {cs : List Int} (A : Asked R q cs) : cs.length ≤ 100 := by
  have := A.bg.len
  have := A.ok.s2
  omega
/-- what gone_through tells -/
structure Gone (R : Rule) (q : Qn) (cs : List Int) (ks ws ss : List (List Int)) (rw_ rs : List Int → Nat) : Prop where
  all : AllOf R (beginC R cs) ks
  head : ks.head? = some (beginC R cs)
  wrong : Ranks R ks (ks.filter (wrongB R (q.truth cs))) ws rw_
  good : Ranks R ks (ks.filter fun k => decide (k ∉ ws)) ss rs
section
variable {P : Program} {w : World} {K : PySem.W.Frag} {mg : Str → Option Value} {base : Heap}
def spGoneThrough : Sp := fun vs H Q _ => ∃ (r b a : Addr) (R : Rule) (q : Qn) (cs : List Int), vs = [.ref r, .ref b, .ref a, .int 1000] ∧ RuleAt H r R ∧ QAt H q b ∧ H a = some (iT cs) ∧ Asked R q cs ∧
  ∀ H' p g pw ps ks ws ss rkw rks, Same H H' → H' p = some (.tup [.ref g, .ref pw, .ref ps]) → GraphAt H' g R ks → H' pw = some (.dT (fkv (rkV rkw) ws)) → H' ps = some (.dT (fkv (rkV rks) ss)) → Gone R q cs ks ws ss rkw rks → Q (.ref p) H'
theorem d_gone_through (Z : BN mg) (A : At K mg "gone_through" s_gone_through ["rule", "question", "counts", "limit"]) (D_graph_of : Def P w K mg base 4 "graph_of" ["rule", "crowd", "limit"] [] spGraphOf) (D_begun : Def P w K mg base 1 "begun" ["rule", "counts"] [] spBegun)
    (D_truth_word : Def P w K mg base 5 "truth_word" ["question", "counts"] [] spTruthWord) (D_ranks_to : Def P w K mg base 1 "ranks_to" ["graph", "goals"] [] spRanksTo) (D_said : Def P w K mg base 1 "said" ["rule", "crowd"] [] spSaid) :
    Def P w K mg base 6 "gone_through" ["rule", "question", "counts", "limit"] [] spGoneThrough := by
  refine A.def sc_gone_through (fun vs H Q E h => ?_) (fun f cdv A outer s H vs Q E hr h => ?_)
  · obtain ⟨r, b, a, R, q, cs, rfl, _⟩ := h
    rfl
  obtain ⟨r, b, a, R, qn, cs, rfl, hR, hb, ha, AS, q⟩ := h
  have hu := hu_of hr
  have F := AS.few
  refine ⟨_, (pss_cons (ps_set (i := 4) sc_gone_through.nd rfl (Or.inl rfl) (pe_def D_graph_of hr rfl (pa_cons (pv 0) (pa_cons (pe_def D_begun hr rfl (pa_cons (pv 0) (pa_cons (pv 2) pa_nil))) (pa_cons (pv 3) pa_nil)))))
    (pss_cons (ps_set (i := 5) sc_gone_through.nd rfl (Or.inr rfl) (pe_def D_truth_word hr rfl (pa_cons (pv 1) (pa_cons (pv 2) pa_nil))))
    (pss_cons (ps_set (i := 6) sc_gone_through.nd rfl (Or.inr rfl) (pe_def D_ranks_to hr rfl (pa_cons (pv 4) (pa_cons (pe_lock (pe_lc (own := [("crowd", 8)]) (g := (gName 8)) rfl sc_gone_through.nd (pi_keys (pv 4)) (blkOk_by (own := [("crowd", 8)]) (N := N_gone_through) (sc := defScope s_gone_through) (by decide +kernel)) (fun _ _ _ _ _ => (pg_name (i := 8) sc_gone_through.nd rfl (Or.inl rfl))) (fun _ _ _ _ _ => pts_one (pt_cmpR op_ne (pe_def D_said hr rfl (pa_cons (pv 0) (pa_cons (pv 8) pa_nil))) (pv 5) (by first | exact nomark _ | rfl))) (fun _ _ _ _ _ => (pv 8)))) pa_nil))))
    (pss_cons (ps_set (i := 7) sc_gone_through.nd rfl (Or.inl rfl) (pe_def D_ranks_to hr rfl (pa_cons (pv 4) (pa_cons (pe_lock (pe_lc (own := [("crowd", 8)]) (g := (gName 8)) rfl sc_gone_through.nd (pi_keys (pv 4)) (blkOk_by (own := [("crowd", 8)]) (N := N_gone_through) (sc := defScope s_gone_through) (by decide +kernel)) (fun _ _ _ _ _ => (pg_name (i := 8) sc_gone_through.nd rfl (Or.inl rfl))) (fun _ _ _ _ _ => pts_one (pt_cmp (pc_dnotin hu (pv 8) (pv 6)))) (fun _ _ _ _ _ => (pv 8)))) pa_nil))))
    (pss_one (ps_ret (pe_tup (pa_cons (pv 4) (pa_cons (pv 6) (pa_cons (pv 7) pa_nil)))))))))), ?_⟩
  refine ⟨_, rfl, _, rfl, _, rfl, r, a, R, cs, rfl, hR, AS.ok, ha, AS.bg.len, fun H1 c0 s1 _ hc0 => ?_⟩
  refine ⟨_, rfl, r, c0, R, beginC R cs, rfl, hR.mono (tst s1), F, hc0, fun H2 g ks s2 _ hg hh AO => ?_⟩
  have s02 := s1.trans s2
  refine ⟨_, rfl, _, rfl, b, a, qn, cs, rfl, AS.dp, AS.qok, AS.len, hb.mono (tst s02), s02 _ _ ha, fun H3 s3 => ?_⟩
  have s03 := s02.trans s3
  have hg3 := hg.mono s3
  obtain ⟨es, hge, hes⟩ := hg3.ex
  have k35 : ks.length ≤ 35 := F.few AO.nd fun k hk => (AO.all k).mp hk
  have kvl : (gkv ks es).length = ks.length := gkv_len hes
  have hR3 := hR.mono (tst s03)
  obtain ⟨hn, hn1, hn4, CR⟩ := F.ex
  -- the crowds that err
  refine ⟨_, rfl, g, _, hge, trivial, fun od => ?_⟩
  refine ⟨_, rfl, g, od, rfl, .inr ⟨_, upd_same, fun D hD => lc_it walk_keysT (fun i H' => Same (upd H3 g (.frz od (.dT (gkv ks es)))) H' ∧ ∃ ts, H' D = some (.lst (ts.map V.ref)) ∧ TupsAt H' ts ((ks.take i).filter (wrongB R (qn.truth cs))))
    ⟨same_new hD, [], upd_same, .nil⟩ (fun i H' _ h => h.1 _ _ upd_same) ?_ ?_⟩⟩
  · rintro i x H4 H4' hi ⟨sH, ts, hD4, hts⟩ ⟨rfl, k, v, qa, hk, rfl, hqa⟩
    obtain ⟨kc, e, hkc, he, rfl, rfl⟩ := ks_nth hes hk
    rw [ck_kV] at hqa
    have hcm : Comes R (beginC R cs) kc := (AO.all kc).mp (List.mem_of_getElem? hkc)
    have Fk := F.comes hcm
    refine ⟨rfl, _, rfl, _, rfl, r, qa, R, kc, rfl, hR3.mono ((tst_lock hge).trans (tst sH)), AS.ok, hqa, Fk.len, fun H5 s5 => ?_⟩
    refine ⟨_, rfl, rfl, _, rfl, ?_⟩
    have s05 := sH.trans s5
    rw [take_snoc hkc, List.filter_append]
    have hfs := List.length_filter_le (wrongB R (qn.truth cs)) (ks.take i)
    rw [List.length_take] at hfs
    have tl : ts.length = _ := Paired.length hts
    rw [said_word (CR.comes AS.ok hcm) hn1]
    cases e : wrongB R (qn.truth cs) kc with
    | true =>
      refine iteT ⟨_, rfl, _, s5 _ _ hD4, by rw [List.length_map]; exact len_lt (by omega), same_upd s05 hD, ts ++ [qa], by rw [upd_same, List.map_append]; rfl, ?_⟩
      rw [List.filter_cons_of_pos e, List.filter_nil]
      have t6 := (tst s5).trans (tst_lst (o := .lst (ts.map V.ref ++ [.ref qa])) (s5 _ _ hD4))
      exact tups_snoc (tups_mono hts t6) (t6 _ _ hqa)
    | false =>
      refine iteF ⟨s05, ts, s5 _ _ hD4, ?_⟩
      rw [List.filter_cons_of_neg (by rw [e]; decide), List.filter_nil, List.append_nil]
      exact tups_mono hts (tst s5)
  rintro H4 ⟨sH, ts, hD4, hts⟩
  rw [kvl, List.take_length] at hts
  refine ⟨sH _ _ upd_same, ?_⟩
  have nDg : D ≠ g := fun z => by rw [z, upd_same] at hD; cases hD
  have s4 : Same H3 (upd H4 g (.dT (gkv ks es))) := unlock hge sH
  have tg : Tst H4 (upd H4 g (.dT (gkv ks es))) := tst_upd fun xs z => by rw [sH _ _ upd_same] at z; cases z
  refine ⟨g, D, ts, R, beginC R cs, ks, ks.filter (wrongB R (qn.truth cs)), rfl, hg3.mono s4, F, AO, by rw [upd_ne nDg]; exact hD4, tups_mono hts tg, List.Nodup.sublist (List.filter_sublist) AO.nd, fun k hk => (List.mem_filter.mp hk).1, fun H5 pw ws rkw s5 hpn hpw rw1 => ?_⟩
  have s05 := (s03.trans s4).trans s5
  have hg5 := hg3.mono (s4.trans s5)
  clear hts
  obtain ⟨es5, hge5, hes5⟩ := hg5.ex
  have kvl5 : (gkv ks es5).length = ks.length := gkv_len hes5
  -- those that don't lead there
  refine ⟨_, rfl, g, _, hge5, trivial, fun od2 => ?_⟩
  have npg : pw ≠ g := fun z => by rw [z, upd_same] at hpn; cases hpn
  refine ⟨_, rfl, g, od2, rfl, .inr ⟨_, upd_same, fun D2 hD2 => lc_it walk_keysT (fun i H' => Same (upd H5 g (.frz od2 (.dT (gkv ks es5)))) H' ∧ ∃ ts, H' D2 = some (.lst (ts.map V.ref)) ∧ TupsAt H' ts ((ks.take i).filter fun k => decide (k ∉ ws)))
    ⟨same_new hD2, [], upd_same, .nil⟩ (fun i H' _ h => h.1 _ _ upd_same) ?_ ?_⟩⟩
  · rintro i x H6 H6' hi ⟨sH, ts, hD4, hts⟩ ⟨rfl, k, v, qa, hk, rfl, hqa⟩
    obtain ⟨kc, e, hkc, he, rfl, rfl⟩ := ks_nth hes5 hk
    rw [ck_kV] at hqa
    have hpw6 : H6' pw = some (.dT (fkv (rkV rkw) ws)) := sH _ _ (by rw [upd_ne npg]; exact hpw)
    refine ⟨rfl, _, rfl, _, rfl, pw, _, rfl, dget_t (Rd.of hpw6) hqa rfl, _, rfl, ?_⟩
    rw [take_snoc hkc, List.filter_append, fkv_val]
    have hfs := List.length_filter_le (fun k => decide (k ∉ ws)) (ks.take i)
    rw [List.length_take] at hfs
    have tl : ts.length = _ := Paired.length hts
    by_cases e : kc ∈ ws
    · rw [if_pos e]
      refine iteF ⟨sH, ts, hD4, ?_⟩
      rw [List.filter_cons_of_neg (by rw [decide_eq_false (fun z => z e)]; decide), List.filter_nil, List.append_nil]
      exact hts
    · rw [if_neg e]
      refine iteT ⟨_, rfl, _, hD4, by rw [List.length_map]; exact len_lt (by omega), same_upd sH hD2, ts ++ [qa], by rw [upd_same, List.map_append]; rfl, ?_⟩
      rw [show List.filter (fun k => decide (k ∉ ws)) [kc] = [kc] from List.filter_cons_of_pos (decide_eq_true e)]
      have t6 : Tst H6' _ := (tst_lst (o := .lst (ts.map V.ref ++ [.ref qa])) hD4)
      exact tups_snoc (tups_mono hts t6) (t6 _ _ hqa)
  rintro H6 ⟨sH6, ts2, hD6, hts2⟩
  rw [kvl5, List.take_length] at hts2
  refine ⟨sH6 _ _ upd_same, ?_⟩
  have nDg2 : D2 ≠ g := fun z => by rw [z, upd_same] at hD2; cases hD2
  have s6 : Same H5 (upd H6 g (.dT (gkv ks es5))) := unlock hge5 sH6
  have tg2 : Tst H6 (upd H6 g (.dT (gkv ks es5))) := tst_upd fun xs z => by rw [sH6 _ _ upd_same] at z; cases z
  refine ⟨g, D2, ts2, R, beginC R cs, ks, ks.filter (fun k => decide (k ∉ ws)), rfl, hg5.mono s6, F, AO, by rw [upd_ne nDg2]; exact hD6, tups_mono hts2 tg2, List.Nodup.sublist (List.filter_sublist) AO.nd, fun k hk => (List.mem_filter.mp hk).1, fun H7 ps ss rks s7 _ hps rs1 => ?_⟩
  have s07 := (s05.trans s6).trans s7
  refine ⟨_, rfl, _, rfl, _, rfl, (by show 3 ≤ sizeLine; decide), fun p hp => ?_⟩
  have s8 := same_new (o := .tup [.ref g, .ref pw, .ref ps]) hp
  exact q _ p g pw ps ks ws ss rkw rks (s07.trans s8) upd_same (hg5.mono ((s6.trans s7).trans s8)) (s8 _ _ (s7 _ _ (s6 _ _ hpw))) (s8 _ _ hps) ⟨AO, hh, rw1, rs1⟩
def spAnswers : Sp := fun vs H Q _ => ∃ (r b a : Addr) (R : Rule) (q : Qn) (cs : List Int), vs = [.ref r, .ref b, .ref a, .int 1000] ∧ RuleAt H r R ∧ QAt H q b ∧ H a = some (iT cs) ∧ Asked R q cs ∧
  ∀ H' ks ws ss rkw rks, Same H H' → Gone R q cs ks ws ss rkw rks → Q (.bl (decide (ss.length = ks.length))) H'
theorem d_answers {dvs : List V} (Z : BN mg) (A : AtD K mg "answers" s_answers ["rule", "question", "counts", "limit"] dvs) (D_gone_through : Def P w K mg base 6 "gone_through" ["rule", "question", "counts", "limit"] [] spGoneThrough) :
    Def P w K mg base 7 "answers" ["rule", "question", "counts", "limit"] dvs spAnswers := by
  refine A.def sc_answers (fun vs H Q E h => ?_) (fun f cdv A outer s H vs Q E hr h => ?_)
  · obtain ⟨r, b, a, R, q, cs, rfl, _⟩ := h
    rfl
  obtain ⟨r, b, a, R, qn, cs, rfl, hR, hb, ha, AS, q⟩ := h
  refine ⟨_, (pss_cons (ps_asg (pe_def D_gone_through hr rfl (pa_cons (pv 0) (pa_cons (pv 1) (pa_cons (pv 2) (pa_cons (pv 3) pa_nil))))) (pg_tup0 rfl (pgs_cons (pg_name (i := 4) sc_answers.nd rfl (Or.inl rfl)) (pgs_cons (pg_name (i := 5) sc_answers.nd rfl (Or.inl rfl)) (pgs_cons (pg_name (i := 6) sc_answers.nd rfl (Or.inl rfl)) pgs_nil)))))
    (pss_one (ps_ret (pe_cmpR op_eq (pe_callB call_len_dT (by rfl) Z.len (by decide +kernel) (pa_cons (pv 6) pa_nil)) (pe_callB call_len_dT (by rfl) Z.len (by decide +kernel) (pa_cons (pv 4) pa_nil)) (by first | exact nomark _ | rfl))))), ?_⟩
  refine ⟨_, rfl, _, rfl, _, rfl, _, rfl, r, b, a, R, qn, cs, rfl, hR, hb, ha, AS, fun H1 p g pw ps ks ws ss rkw rks s1 hp hg hpw hps GO => ?_⟩
  refine ⟨p, _, rfl, Rd.of hp, rfl, _, _, rfl, _, _, rfl, _, _, rfl, rfl, ?_⟩
  obtain ⟨es, hge, hes⟩ := hg.ex
  refine ⟨_, rfl, ps, _, rfl, hps, _, rfl, g, _, rfl, hge, rfl, ?_⟩
  rw [fkv_len, gkv_len hes]
  have := q H1 ks ws ss rkw rks s1 GO
  have e : decide (V.int ((ss.length : Nat) : Int) = V.int ((ks.length : Nat) : Int)) = decide (ss.length = ks.length) := by
    refine decide_eq_decide.mpr ⟨fun z => ?_, fun z => by rw [z]⟩
    injection z with z
    omega
  rw [e]
  exact this
end
end PB
namespace PB
open PySem PySem.Spec PyProof.Rows L2
/-! ### what the ranks say -/
theorem Gone.wrong_iff {R : Rule} {q : Qn} {cs : List Int} {ks ws ss : List (List Int)} {f g : List Int → Nat} (G : Gone R q cs ks ws ss f g) {k : List Int} (hk : k ∈ ks) : k ∉ ws ↔ Sett R (q.truth cs) k := by
  rw [G.wrong.all k hk]
  constructor
  · intro h d hd
    cases e : wrongB R (q.truth cs) d with
    | false => rfl
    | true => exact absurd ⟨d, hd, List.mem_filter.mpr ⟨G.all.comes hk hd, e⟩⟩ h
  · rintro h ⟨d, hd, hm⟩
    have := (List.mem_filter.mp hm).2
    rw [h d hd] at this
    cases this
theorem Gone.good_iff {R : Rule} {q : Qn} {cs : List Int} {ks ws ss : List (List Int)} {f g : List Int → Nat} (G : Gone R q cs ks ws ss f g) {k : List Int} (hk : k ∈ ks) : k ∈ ss ↔ Leads R (Sett R (q.truth cs)) k := by
  rw [G.good.all k hk]
  constructor
  · rintro ⟨d, hd, hm⟩
    have := of_decide_eq_true (List.mem_filter.mp hm).2
    exact ⟨d, hd, (G.wrong_iff (G.all.comes hk hd)).mp this⟩
  · rintro ⟨d, hd, hs⟩
    exact ⟨d, hd, List.mem_filter.mpr ⟨G.all.comes hk hd, decide_eq_true ((G.wrong_iff (G.all.comes hk hd)).mpr hs)⟩⟩
theorem Gone.ans {R : Rule} {q : Qn} {cs : List Int} {ks ws ss : List (List Int)} {f g : List Int → Nat} (G : Gone R q cs ks ws ss f g) : ss.length = ks.length ↔ Ans R q cs := by
  constructor
  · intro e d hd
    have hk := (G.all.all d).mpr hd
    refine (G.good_iff hk).mp ?_
    rcases Classical.em (d ∈ ss) with z | z
    · exact z
    · have := few_in (l := d :: ss) (m := ks) (List.nodup_cons.mpr ⟨z, G.good.nd⟩) fun x hx => by
        rcases List.mem_cons.mp hx with y | y
        · rw [y]; exact hk
        · exact G.good.sub x y
      rw [List.length_cons] at this
      omega
  · intro h
    have h1 := few_in G.good.nd G.good.sub
    have h2 := few_in G.all.nd fun k hk => (G.good_iff hk).mpr (h k ((G.all.all k).mp hk))
    omega
theorem lex_of_code {B : Int} : ∀ {x y : List Int}, x.length = y.length → TS.Bd B x → TS.Bd B y → TS.code B x ≤ TS.code B y → x ≠ y → HT.lexLt x y = true
  | [], [], _, _, _, _, h => absurd rfl h
  | [], _ :: _, h, _, _, _, _ => by cases h
  | _ :: _, [], h, _, _, _, _ => by cases h
  | a :: x, b :: y, hl, h1, h2, hc, hn => by
    have hl' : x.length = y.length := by simpa using hl
    rw [HT.lexLt_cons]
    by_cases e : a = b
    · subst e
      rw [if_pos rfl]
      refine lex_of_code hl' h1.tail h2.tail ?_ (fun z => hn (by rw [z]))
      rcases Int.lt_or_le (TS.code B y) (TS.code B x) with z | z
      · have := (TS.code_same (d := a) hl'.symm (B := B) (r := y) (q := x)).mpr z
        omega
      · exact z
    · rw [if_neg e]
      refine decide_eq_true ?_
      rcases Int.lt_or_le a b with z | z
      · exact z
      · have := TS.code_lt hl'.symm h2.tail h1.tail (d := b) (e := a) (by omega)
        omega
abbrev RowsAt (H : Hp) (ts : List Addr) (rows : List (List Int)) (f : List Int → Nat) : Prop := Paired (fun t k => ∃ b, H t = some (.tup [.ref b, .int (f k : Int)]) ∧ H b = some (iT k)) ts rows
structure PaperAt (H : Hp) (p : Addr) (R : Rule) (q : Qn) (cs : List Int) : Prop where
  ex : ∃ (a n rk : Addr) (o : Obj) (ts : List Addr) (rows : List (List Int)) (f : List Int → Nat) (js : List Nat) (d : List Int),
    H p = some (.tup [.ref a, .ref n, .ref rk]) ∧ H a = some (iT cs) ∧ H n = some (.tup (nV js)) ∧ js.length ≤ 100 ∧ WalkTo R (beginC R cs) js d ∧ H rk = some (.frz o (.tup (ts.map V.ref))) ∧ o.dict = none ∧ RowsAt H ts rows f ∧
    AllOf R d rows ∧ rows.Pairwise (fun x y => HT.lexLt x y = true) ∧ (∀ k ∈ rows, f k = 0 → wrongB R (q.truth cs) k = true) ∧ (∀ k ∈ rows, 0 < f k → ∃ e ∈ nexts R k, f e < f k)
theorem PaperAt.mono {H H' : Hp} {p : Addr} {R : Rule} {q : Qn} {cs : List Int} (G : PaperAt H p R q cs) (s : Same H H') : PaperAt H' p R q cs := by
  obtain ⟨a, n, rk, o, ts, rows, f, js, d, h1, h2, h3, h4, h5, h6, h7, h8, h9⟩ := G.ex
  exact ⟨a, n, rk, o, ts, rows, f, js, d, s _ _ h1, s _ _ h2, s _ _ h3, h4, h5, s _ _ h6, h7, paired_mono h8 fun t k ⟨b, x, y⟩ => ⟨b, s _ _ x, s _ _ y⟩, h9⟩
theorem cr_bd {n : Nat} {h : Int} {c : List Int} (C : Cr n h c) (h4 : h ≤ 4) : TS.Bd 5 c := by
  have key : ∀ {c : List Int}, (∀ x ∈ c, 0 ≤ x) → 0 ≤ c.sum ∧ ∀ x ∈ c, x ≤ c.sum := by
    intro c
    induction c with
    | nil => intro _; exact ⟨by simp, fun x hx => by cases hx⟩
    | cons a r ih =>
      intro hp
      obtain ⟨i1, i2⟩ := ih fun x hx => hp x (List.mem_cons_of_mem _ hx)
      have := hp a List.mem_cons_self
      rw [List.sum_cons]
      refine ⟨by omega, fun x hx => ?_⟩
      rcases List.mem_cons.mp hx with z | z
      · omega
      · have := i2 x z
        omega
  intro x hx
  have := (key C.pos).2 x hx
  rw [C.sum] at this
  have := C.pos x hx
  omega
section
variable {P : Program} {w : World} {K : PySem.W.Frag} {mg : Str → Option Value} {base : Heap}
def spErrAt : Sp := fun vs H Q _ => ∃ (r b a : Addr) (R : Rule) (q : Qn) (cs : List Int), vs = [.ref r, .ref b, .ref a, .int 1000] ∧ RuleAt H r R ∧ QAt H q b ∧ H a = some (iT cs) ∧ Asked R q cs ∧
  (Ans R q cs → ∀ H', Same H H' → Q .non H') ∧ (¬ Ans R q cs → ∀ H' p, Same H H' → PaperAt H' p R q cs → Q (.ref p) H')
theorem d_err_at {dvs : List V} (Z : BN mg) (A : AtD K mg "err_at" s_err_at ["rule", "question", "counts", "limit"] dvs) (D_gone_through : Def P w K mg base 6 "gone_through" ["rule", "question", "counts", "limit"] [] spGoneThrough)
    (D_row_to : Def P w K mg base 1 "row_to" ["graph", "crowd", "goals"] [] spRowTo) (D_graph_of : Def P w K mg base 4 "graph_of" ["rule", "crowd", "limit"] [] spGraphOf) :
    Def P w K mg base 7 "err_at" ["rule", "question", "counts", "limit"] dvs spErrAt := by
  refine A.def sc_err_at (fun vs H Q E h => ?_) (fun f cdv A outer s H vs Q E hr h => ?_)
  · obtain ⟨r, b, a, R, q, cs, rfl, _⟩ := h
    rfl
  obtain ⟨r, b, a, R, qn, cs, rfl, hR, hb, ha, AS, q1, q2⟩ := h
  have hu := hu_of hr
  have hd1 : 1 ≤ R.n := AS.ok.n1
  refine ⟨_, (pss_cons (ps_asg (pe_def D_gone_through hr rfl (pa_cons (pv 0) (pa_cons (pv 1) (pa_cons (pv 2) (pa_cons (pv 3) pa_nil))))) (pg_tup0 rfl (pgs_cons (pg_name (i := 4) sc_err_at.nd rfl (Or.inl rfl)) (pgs_cons (pg_name (i := 5) sc_err_at.nd rfl (Or.inr rfl)) (pgs_cons (pg_name (i := 6) sc_err_at.nd rfl (Or.inr rfl)) pgs_nil)))))
    (pss_cons (ps_if (pt_cmpR op_eq (pe_callB call_len_dT (by rfl) Z.len (by decide +kernel) (pa_cons (pv 6) pa_nil)) (pe_callB call_len_dT (by rfl) Z.len (by decide +kernel) (pa_cons (pv 4) pa_nil)) (by first | exact nomark _ | rfl)) (pss_one (ps_ret pe_non)) pss_nil)
    (pss_cons (ps_set (i := 7) sc_err_at.nd rfl (Or.inl rfl) (pe_callTy (cr_dictL rfl hr.units) (by rfl) Z.dict (by decide +kernel) (pa_cons (pe_lock (pe_lc (own := [("crowd", 10)]) (g := (gName 10)) rfl sc_err_at.nd (pi_keys (pv 4)) (blkOk_by (own := [("crowd", 10)]) (N := N_err_at) (sc := defScope s_err_at) (by decide +kernel)) (fun _ _ _ _ _ => (pg_name (i := 10) sc_err_at.nd rfl (Or.inl rfl))) (fun _ _ _ _ _ => pts_one (pt_cmp (pc_dnotin hu (pv 10) (pv 6)))) (fun _ _ _ _ _ => (pe_tup (pa_cons (pv 10) (pa_cons pe_bl pa_nil)))))) pa_nil)))
    (pss_cons (ps_set (i := 8) sc_err_at.nd rfl (Or.inl rfl) (pe_ix ix_list0 (pe_callTy (call_list_dT rfl) (by rfl) Z.list (by decide +kernel) (pa_cons (pv 4) pa_nil)) pe_int (fun _ _ => rfl)))
    (pss_cons (ps_asg (pe_def D_row_to hr rfl (pa_cons (pv 4) (pa_cons (pv 8) (pa_cons (pv 7) pa_nil)))) (pg_tup0 rfl (pgs_cons (pg_name (i := 9) sc_err_at.nd rfl (Or.inl rfl)) (pgs_cons (pg_name (i := 10) sc_err_at.nd rfl (Or.inl rfl)) pgs_nil))))
    (pss_cons (ps_setLc (i := 11) (own := [("one", 12)]) (g := (gName 12)) rfl sc_err_at.nd rfl rfl (sw_true rfl rfl rfl (by decide +kernel)) (pi_list (pe_callB (cr_sortD (d := R.n) (B := 5) rfl hd1) (by rfl) Z.sorted (by decide +kernel) (pa_cons (pe_def D_graph_of hr rfl (pa_cons (pv 0) (pa_cons (pv 10) (pa_cons (pv 3) pa_nil)))) pa_nil))) (blkOk_by (own := [("one", 12)]) (N := N_err_at) (sc := defScope s_err_at) (by decide +kernel)) (fun _ _ _ _ _ => (pg_name (i := 12) sc_err_at.nd rfl (Or.inl rfl))) (fun _ _ _ _ _ => pts_nil) (fun _ _ _ _ _ => (pe_tup (pa_cons (pv 12) (pa_cons (pe_dget hu (pv 5) (pv 12) (fun _ _ => rfl)) pa_nil)))))
    (pss_one (ps_ret (pe_tup (pa_cons (pv 2) (pa_cons (pe_callTy call_tuple0 (by rfl) Z.tuple (by decide +kernel) (pa_cons (pv 9) pa_nil)) (pa_cons (pe_callTy cr_tupleF (by rfl) Z.tuple (by decide +kernel) (pa_cons (pv 11) pa_nil)) pa_nil)))))))))))), ?_⟩
  refine ⟨_, rfl, _, rfl, _, rfl, _, rfl, r, b, a, R, qn, cs, rfl, hR, hb, ha, AS, fun H1 p g pw ps ks ws ss rkw rks s1 hp hg hpw hps GO => ?_⟩
  refine ⟨p, _, rfl, Rd.of hp, rfl, _, _, rfl, _, _, rfl, _, _, rfl, rfl, ?_⟩
  obtain ⟨es, hge, hes⟩ := hg.ex
  refine ⟨_, rfl, ps, _, rfl, hps, _, rfl, g, _, rfl, hge, rfl, _, rfl, ?_⟩
  rw [fkv_len, gkv_len hes]
  have F := AS.few
  have AO := GO.all
  have k35 : ks.length ≤ 35 := F.few AO.nd fun k hk => (AO.all k).mp hk
  have kvl : (gkv ks es).length = ks.length := gkv_len hes
  by_cases hlen : ss.length = ks.length
  · rw [hlen]
    exact ifY (by rw [decide_eq_true rfl]) (q1 (GO.ans.mp hlen) H1 s1)
  have hA : ¬ Ans R qn cs := fun z => hlen (GO.ans.mpr z)
  refine ifW (decide_eq_false fun z => hlen (by injection z with z; omega)) ?_
  -- lost
  refine ⟨g, _, hge, trivial, fun od => ?_⟩
  obtain ⟨kt, hkt⟩ : ∃ kt, ks = beginC R cs :: kt := by
    cases ks with
    | nil => exact absurd GO.head (fun z => by cases z)
    | cons x kt => exact ⟨kt, by rw [Option.some.inj (show some x = some (beginC R cs) from GO.head)]⟩
  have npg : ps ≠ g := fun z => by
    rw [z, hge] at hps
    injection hps with hps
    injection hps with hps
    subst hkt
    cases hes with
    | cons _ _ =>
      cases ss with
      | nil => cases hps
      | cons x t =>
        have hps : (ck (beginC R cs), V.ref _) :: _ = (ck x, V.int _) :: _ := hps
        injection hps with e1 e2
        injection e1 with e3 e4
        cases e4
  refine ⟨_, rfl, g, od, rfl, .inr ⟨_, upd_same, fun D hD => lc_it walk_keysT (fun i H' => Same (upd H1 g (.frz od (.dT (gkv ks es)))) H' ∧ ∃ ts, H' D = some (.lst (ts.map V.ref)) ∧ PairsT H' ts (fkv seenV ((ks.take i).filter fun k => decide (k ∉ ss))))
    ⟨same_new hD, [], upd_same, .nil⟩ (fun i H' _ h => h.1 _ _ upd_same) ?_ ?_⟩⟩
  · rintro i x H6 H6' hi ⟨sH, ts, hD4, hts⟩ ⟨rfl, k, v, qa, hk, rfl, hqa⟩
    obtain ⟨kc, e, hkc, he, rfl, rfl⟩ := ks_nth hes hk
    rw [ck_kV] at hqa
    have hps6 : H6' ps = some (.dT (fkv (rkV rks) ss)) := sH _ _ (by rw [upd_ne npg]; exact hps)
    refine ⟨rfl, _, rfl, _, rfl, ps, _, rfl, dget_t (Rd.of hps6) hqa rfl, _, rfl, ?_⟩
    rw [take_snoc hkc, List.filter_append, fkv_val]
    have hfs := List.length_filter_le (fun k => decide (k ∉ ss)) (ks.take i)
    rw [List.length_take] at hfs
    have tl : ts.length = _ := Paired.length hts
    rw [fkv_len] at tl
    by_cases e : kc ∈ ss
    · rw [if_pos e]
      refine iteF ⟨sH, ts, hD4, ?_⟩
      rw [List.filter_cons_of_neg (by rw [decide_eq_false (fun z => z e)]; decide), List.filter_nil, List.append_nil]
      exact hts
    · rw [if_neg e]
      refine iteT ⟨_, rfl, (by show 2 ≤ sizeLine; decide), fun T hT => ?_⟩
      have s7 := same_new (o := .tup [.ref qa, .bl true]) hT
      have hD7 := s7 _ _ hD4
      have t7 := (tst s7).trans (tst_lst (o := .lst (ts.map V.ref ++ [.ref T])) hD7)
      refine ⟨_, hD7, by rw [List.length_map]; exact len_lt (by omega), same_upd (sH.trans s7) hD, ts ++ [T], by rw [upd_same, List.map_append]; rfl, ?_⟩
      rw [show List.filter (fun k => decide (k ∉ ss)) [kc] = [kc] from List.filter_cons_of_pos (decide_eq_true e)]
      have ef : fkv seenV ((ks.take i).filter (fun k => decide (k ∉ ss)) ++ [kc]) = fkv seenV ((ks.take i).filter (fun k => decide (k ∉ ss))) ++ [(ck kc, V.bl true)] := by
        unfold fkv
        rw [List.map_append]
        rfl
      rw [ef]
      refine paired_snoc (paired_mono hts fun p kv ⟨b, h1, h2⟩ => ⟨b, t7 _ _ h1, t7 _ _ h2⟩) ⟨qa, tst_lst (o := .lst (ts.map V.ref ++ [.ref T])) hD7 _ _ upd_same, ?_⟩
      rw [ck_kV]
      exact t7 _ _ hqa
  rintro H2 ⟨sH, ts, hD2, hts⟩
  rw [kvl, List.take_length] at hts
  refine ⟨sH _ _ upd_same, ?_⟩
  have nDg : D ≠ g := fun z => by rw [z, upd_same] at hD; cases hD
  have s2 : Same H1 (upd H2 g (.dT (gkv ks es))) := unlock hge sH
  have tg : Tst H2 (upd H2 g (.dT (gkv ks es))) := tst_upd fun xs z => by rw [sH _ _ upd_same] at z; cases z
  have nd2 : (ks.filter fun k => decide (k ∉ ss)).Nodup := List.Nodup.sublist (List.filter_sublist) AO.nd
  refine ⟨D, ts, fkv seenV (ks.filter fun k => decide (k ∉ ss)), rfl, by rw [upd_ne nDg]; exact hD2, paired_mono hts fun p kv ⟨b, h1, h2⟩ => ⟨b, tg _ _ h1, tg _ _ h2⟩, by rw [fkv_keys]; exact ck_nodup nd2, fun lo hlo => ?_⟩
  have s3 := s2.trans (same_new (o := .dT (fkv seenV (ks.filter fun k => decide (k ∉ ss)))) hlo)
  clear hts tg nDg sH hD2 hD
  generalize hH3 : upd (upd H2 g (.dT (gkv ks es))) lo (.dT (fkv seenV (ks.filter fun k => decide (k ∉ ss)))) = H3 at s3
  have hlo3 : H3 lo = some (.dT (fkv seenV (ks.filter fun k => decide (k ∉ ss)))) := by rw [← hH3, upd_same]
  clear hH3 s2 hlo
  have hge3 := s3 _ _ hge
  -- begin = list(graph)[0]
  refine ⟨_, rfl, g, _, rfl, Rd.of hge3, fun lb bs hlb hbs => ?_⟩
  have s4 := s3.trans (same_new (o := .lst (bs.map V.ref)) hlb)
  obtain ⟨b0, bt, hb0, hc0⟩ : ∃ b0 bt, bs = b0 :: bt ∧ H3 b0 = some (iT (beginC R cs)) := by
    subst hkt
    cases hes with
    | cons _ _ =>
      cases hbs with
      | cons h t =>
        have h : H3 _ = some (.tup ((ck (beginC R cs)).map kV)) := h
        rw [ck_kV] at h
        exact ⟨_, _, rfl, h⟩
  subst hb0
  refine ⟨_, _, _, _, rfl, rfl, Rd.of upd_same, at_nat (j := 0) rfl, ?_⟩
  -- row_to
  obtain ⟨kl, hkl, hkn⟩ : ∃ k, k ∈ ks ∧ k ∉ ss := by
    rcases Classical.em (∃ k, k ∈ ks ∧ k ∉ ss) with z | z
    · exact z
    · have h1 := few_in GO.good.nd GO.good.sub
      have h2 := few_in AO.nd fun k hk => Classical.byContradiction fun y => z ⟨k, hk, y⟩
      exact absurd (by omega) hlen
  refine ⟨_, rfl, _, rfl, _, rfl, g, b0, lo, R, beginC R cs, ks, ks.filter (fun k => decide (k ∉ ss)), rfl, hg.mono (s3.trans (same_new hlb)), F, AO, ?_, ?_, ⟨kl, List.mem_filter.mpr ⟨hkl, decide_eq_true hkn⟩, (AO.all kl).mp hkl⟩, fun H5 p5 nl cp js d s5 hp5 hnl hjs hcp hd wk => ?_⟩
  · exact same_new hlb _ _ hc0
  · exact same_new hlb _ _ hlo3
  obtain ⟨hdk, hds⟩ := List.mem_filter.mp hd
  have hds := of_decide_eq_true hds
  refine ⟨p5, _, rfl, Rd.of hp5, rfl, _, _, rfl, _, _, rfl, rfl, ?_⟩
  have s15 := s4.trans s5
  have s05 := s1.trans s15
  have hcd := (AO.all d).mp hdk
  have Fd := F.comes hcd
  obtain ⟨hn, hn1, hn4, CR⟩ := Fd.ex
  have lead : ∀ k, Comes R d k → k ∈ ws := fun k hk => Classical.byContradiction fun z => by
    have hkk := AO.comes hdk hk
    exact hds ((GO.good_iff hdk).mpr ⟨k, hk, (GO.wrong_iff hkk).mp z⟩)
  -- ranks
  refine ⟨_, rfl, _, rfl, _, rfl, r, cp, R, d, rfl, hR.mono (tst s05), Fd, hcp, fun H6 g2 k2 s6 _ hg2 hh2 AO2 => ?_⟩
  obtain ⟨es2, hge2, hes2⟩ := hg2.ex
  have k235 : k2.length ≤ 35 := Fd.few AO2.nd fun k hk => (AO2.all k).mp hk
  have crk : ∀ k ∈ k2, Cr R.n hn k := fun k hk => CR.comes AS.ok ((AO2.all k).mp hk)
  refine ⟨g2, gkv k2 es2, k2, rfl, Rd.of hge2, gkv_keys hes2, by omega, fun k hk => ⟨(crk k hk).len, cr_bd (crk k hk) hn4⟩, fun ts p7 hp7 hts hperm hsort => ?_⟩
  have s7 := same_new (o := .lst (ts.map fun t => V.ref t.1)) hp7
  have s67 := s6.trans s7
  have s17 := s15.trans s67
  generalize hH7 : upd H6 p7 (.lst (ts.map fun t => V.ref t.1)) = H7 at s7 s67 s17
  have hl7 : H7 p7 = some (.lst (ts.map fun t => V.ref t.1)) := by rw [← hH7, upd_same]
  have hts7 : ∀ t ∈ ts, H7 t.1 = some (iT t.2) := fun t ht => by
    refine (s7 _ _ (hts t ht))
  have hpw7 := s17 _ _ hpw
  have tl : ts.length ≤ 35 := by
    have := hperm.length_eq
    rw [List.length_map] at this
    omega
  have tin : ∀ t ∈ ts, t.2 ∈ k2 := fun t ht => hperm.mem_iff.mp (List.mem_map.mpr ⟨t, ht, rfl⟩)
  refine ⟨p7, rfl, ⟨_, SqL.of hl7⟩, fun D hD => lc_it walk_list (fun i H' => Same H7 H' ∧ ∃ us, H' D = some (.lst (us.map V.ref)) ∧ RowsAt H' us ((ts.take i).map (·.2)) rkw)
    ⟨same_new hD, [], upd_same, .nil⟩ (fun i H' _ h => SqL.of (h.1 _ _ hl7)) ?_ ?_⟩
  · rintro i x H8 H8' hi ⟨s8, us, hD8, hus⟩ ⟨rfl, hx⟩
    have hi' : i < ts.length := by rwa [List.length_map] at hi
    rw [List.getElem?_map, List.getElem?_eq_getElem hi'] at hx
    obtain rfl := Option.some.inj hx
    have hm := List.getElem_mem hi'
    have hkx := tin _ hm
    refine ⟨rfl, _, rfl, _, rfl, _, rfl, pw, _, rfl, dget_t (Rd.of (s8 _ _ hpw7)) (s8 _ _ (hts7 _ hm)) (v := some (rkV rkw (ts[i].2))) (by rw [fkv_val, if_pos (lead _ ((AO2.all _).mp hkx))]), (by show 2 ≤ sizeLine; decide), fun T hT => ?_⟩
    have s9 := same_new (o := .tup [.ref (ts[i].1), .int (rkw (ts[i].2) : Int)]) hT
    have hD9 := s9 _ _ hD8
    have t9 := (tst s9).trans (tst_lst (o := .lst (us.map V.ref ++ [.ref T])) hD9)
    have ul : us.length = _ := Paired.length hus
    rw [List.length_map, List.length_take] at ul
    refine ⟨_, hD9, by rw [List.length_map]; exact len_lt (by omega), same_upd (s8.trans s9) hD, us ++ [T], by rw [upd_same, List.map_append]; rfl, ?_⟩
    rw [List.take_add_one, List.getElem?_eq_getElem hi', List.map_append]
    refine paired_snoc (paired_mono hus fun p k ⟨b, h1, h2⟩ => ⟨b, t9 _ _ h1, t9 _ _ h2⟩) ⟨ts[i].1, tst_lst (o := .lst (us.map V.ref ++ [.ref T])) hD9 _ _ upd_same, t9 _ _ (s8 _ _ (hts7 _ hm))⟩
  rintro H8 ⟨s8, us, hD8, hus⟩
  rw [List.length_map, List.take_length] at hus
  have s08 := s1.trans (s17.trans s8)
  -- the paper
  refine ⟨_, rfl, _, rfl, nl, _, rfl, Rd.of ((s67.trans s8) _ _ hnl), fun n9 hn9 => ?_⟩
  have s9 := same_new (o := .tup (nV js)) hn9
  refine ⟨_, rfl, D, _, rfl, SqL.of (s9 _ _ hD8), fun r9 o hr9 ho => ?_⟩
  have s10 := s9.trans (same_new (o := .frz o (.tup (us.map V.ref))) hr9)
  refine ⟨(by show 3 ≤ sizeLine; decide), fun p hp => ?_⟩
  have s11 := same_new (o := .tup [.ref a, .ref n9, .ref r9]) hp
  have s811 := s10.trans s11
  have mrow : ∀ k, k ∈ ts.map (·.2) ↔ k ∈ k2 := fun k => hperm.mem_iff
  refine q2 hA _ p (s08.trans s811) ⟨a, n9, r9, o, us, ts.map (·.2), rkw, js, d, upd_same, (s08.trans s811) _ _ ha, ?_, hjs, wk, s11 _ _ upd_same, ho, paired_mono hus fun p k ⟨b, h1, h2⟩ => ⟨b, s811 _ _ h1, s811 _ _ h2⟩,
    ⟨hperm.nodup_iff.mpr AO2.nd, fun k => (mrow k).trans (AO2.all k)⟩, ?_, fun k hk h0 => ?_, fun k hk h0 => ?_⟩
  · exact (same_new (o := .frz o (.tup (us.map V.ref))) hr9 |>.trans s11) _ _ upd_same
  · have nd := hperm.nodup_iff.mpr AO2.nd
    have ps : (ts.map (·.2)).Pairwise (fun x y => TS.code 5 x ≤ TS.code 5 y) := List.pairwise_map.mpr hsort
    refine (ps.and nd).imp_of_mem fun {x y} hx hy ⟨h1, h2⟩ => ?_
    have cx := crk x ((mrow x).mp hx)
    have cy := crk y ((mrow y).mp hy)
    exact lex_of_code (by rw [cx.len, cy.len]) (cr_bd cx hn4) (cr_bd cy hn4) h1 h2
  · have := GO.wrong.zero k (lead k ((AO2.all k).mp ((mrow k).mp hk))) h0
    exact (List.mem_filter.mp this).2
  · obtain ⟨e, h1, _, h3⟩ := GO.wrong.fall k (lead k ((AO2.all k).mp ((mrow k).mp hk))) h0
    exact ⟨e, h1, h3⟩
end
end PB
namespace PB
open PySem PySem.Spec PyProof.Rows L2
def begI : Nat → Nat → List (List Int)
  | 0, _ => [[]]
  | _ + 1, h => (List.range (h + 1)).map fun (i : Nat) => [(i : Int)]
def endB (h : Nat) (r : List Int) : List Int := r ++ [(h : Int) - r.sum]
/-- the beginnings of h hands of S sorts -/
def begL (S h : Nat) : List (List Int) := (begI (S - 1) h).map (endB h)
def begAll (S n : Nat) : List (List Int) := (List.range n).flatMap fun i => begL S (i + 1)
theorem begAll_succ (S n : Nat) : begAll S (n + 1) = begAll S n ++ begL S (n + 1) := by
  unfold begAll
  rw [List.range_succ, List.flatMap_append]
  simp
theorem begAll_split (S : Nat) : ∀ {n i : Nat}, i < n → ∃ rest, begAll S n = begAll S i ++ (begL S (i + 1) ++ rest)
  | 0, i, h => absurd h (Nat.not_lt_zero _)
  | n + 1, i, h => by
    rw [begAll_succ]
    rcases Nat.lt_or_ge i n with z | z
    · obtain ⟨rest, e⟩ := begAll_split S z
      exact ⟨rest ++ begL S (n + 1), by rw [e, List.append_assoc, List.append_assoc]⟩
    · have : i = n := by omega
      subst this
      exact ⟨[], by rw [List.append_nil]⟩
theorem begI_ok {S h : Nat} (h1 : 1 ≤ S) (h2 : S ≤ 2) {r : List Int} (hr : r ∈ begI (S - 1) h) : r.length = S - 1 ∧ (∀ x ∈ r, 0 ≤ x) ∧ 0 ≤ r.sum ∧ r.sum ≤ h := by
  have : S = 1 ∨ S = 2 := by omega
  rcases this with e | e <;> subst e
  · rw [List.mem_singleton.mp hr]
    exact ⟨rfl, fun x hx => (by cases hx), Int.le_refl _, by show (0 : Int) ≤ _; omega⟩
  · obtain ⟨i, hi, rfl⟩ := List.mem_map.mp hr
    have := List.mem_range.mp hi
    refine ⟨rfl, fun x hx => ?_, ?_, ?_⟩
    · rw [List.mem_singleton.mp hx]; omega
    · simp
    · simp; omega
theorem begL_ok {S h : Nat} (h1 : 1 ≤ S) (h2 : S ≤ 2) {cs : List Int} (hc : cs ∈ begL S h) : cs.length = S ∧ (∀ x ∈ cs, 0 ≤ x) ∧ cs.sum = h := by
  obtain ⟨r, hr, rfl⟩ := List.mem_map.mp hc
  obtain ⟨a1, a2, a3, a4⟩ := begI_ok h1 h2 hr
  unfold endB
  refine ⟨by rw [List.length_append, a1]; show S - 1 + 1 = S; omega, fun x hx => ?_, ?_⟩
  · rcases List.mem_append.mp hx with z | z
    · exact a2 x z
    · rw [List.mem_singleton.mp z]; omega
  · rw [List.sum_append]
    simp
    omega
section
variable {P : Program} {w : World} {K : PySem.W.Frag} {mg : Str → Option Value} {base : Heap}
def spBeginnings : Sp := fun vs H Q _ => ∃ (S h : Nat), vs = [.int (S : Int), .int (h : Int)] ∧ 1 ≤ S ∧ S ≤ 2 ∧ h ≤ 4 ∧ ∀ H' p ts, Same H H' → H' p = some (.lst (ts.map V.ref)) → TupsAt H' ts (begL S h) → Q (.ref p) H'
theorem d_beginnings (Z : BN mg) (A : At K mg "beginnings" s_beginnings ["sorts", "hands"]) : Def P w K mg base 1 "beginnings" ["sorts", "hands"] [] spBeginnings := by
  refine A.def sc_beginnings (fun vs H Q E h => ?_) (fun f cdv A outer s H vs Q E hr h => ?_)
  · obtain ⟨S, h, rfl, _⟩ := h
    rfl
  obtain ⟨S, h, rfl, h1, h2, h4, q⟩ := h
  refine ⟨_, (pss_cons (ps_set (i := 2) sc_beginnings.nd rfl (Or.inl rfl) (pe_lst (pa_cons (pe_tup pa_nil) pa_nil)))
    (pss_cons (ps_for PassesOwn.never rfl (pi_range1 (by rfl) Z.range (pa_cons (pe_op op_sub (pv 0) pe_int) pa_nil)) (pg_name (i := 3) sc_beginnings.nd rfl (Or.inl rfl))
      (pss_cons (ps_set (i := 4) sc_beginnings.nd rfl (Or.inl rfl) (pe_lst pa_nil))
      (pss_cons (ps_for PassesOwn.never rfl (pi_list (pv 2)) (pg_name (i := 5) sc_beginnings.nd rfl (Or.inr rfl))
        (pss_one (ps_expr (pe_bm PySem.F.plainAttrs_list PySem.F.slot_list_extend PySem.F.type_list_extend mt_extend (pv 4) (pa_cons (pe_lc (own := [("many", 6)]) (g := (gName 6)) rfl sc_beginnings.nd (pi_range1 (by rfl) Z.range (pa_cons (pe_op op_add (pe_op op_sub (pv 1) (pe_callB (cr_sumT rfl) (by rfl) Z.sum (by decide +kernel) (pa_cons (pv 5) pa_nil))) pe_int) pa_nil)) (blkOk_by (own := [("many", 6)]) (N := N_beginnings) (sc := defScope s_beginnings) (by decide +kernel)) (fun _ _ _ _ _ => (pg_name (i := 6) sc_beginnings.nd rfl (Or.inl rfl))) (fun _ _ _ _ _ => pts_nil) (fun _ _ _ _ _ => (pe_op op_cat0 (pv 5) (pe_tup (pa_cons (pv 6) pa_nil))))) pa_nil)))))
      (pss_one (ps_set (i := 2) sc_beginnings.nd rfl (Or.inl rfl) (pv 4))))))
    (pss_one (ps_ret (pe_lc (own := [("row", 5)]) (g := (gName 5)) rfl sc_beginnings.nd (pi_list (pv 2)) (blkOk_by (own := [("row", 5)]) (N := N_beginnings) (sc := defScope s_beginnings) (by decide +kernel)) (fun _ _ _ _ _ => (pg_name (i := 5) sc_beginnings.nd rfl (Or.inl rfl))) (fun _ _ _ _ _ => pts_nil) (fun _ _ _ _ _ => (pe_op op_cat0 (pv 5) (pe_tup (pa_cons (pe_op op_sub (pv 1) (pe_callB (cr_sumT rfl) (by rfl) Z.sum (by decide +kernel) (pa_cons (pv 5) pa_nil))) pa_nil))))))))), ?_⟩
  refine ⟨Nat.zero_le _, fun t0 ht0 => ⟨(by show 1 ≤ sizeLine; decide), fun rl hrl => ?_⟩⟩
  have s0 : Same H (upd H t0 (.tup [])) := same_new ht0
  have s1 := s0.trans (same_new (o := .lst [.ref t0]) hrl)
  refine ⟨_, rfl, _, _, rfl, rfl, ((S : Int) - 1), rfl, by omega, by omega, for_it (walk_range (lo := 0) (n := ((S : Int) - 1).toNat)) (fun i σ H' => ∃ v3 v4 v5 rl ts, σ = [some (.int (S : Int)), some (.int (h : Int)), some (.ref rl), v3, v4, v5, none] ∧ Same H H' ∧ H' rl = some (.lst (ts.map V.ref)) ∧ TupsAt H' ts (begI i h))
    ⟨none, none, none, rl, [t0], rfl, s1, upd_same, .cons ?_ .nil⟩ (fun _ _ _ _ _ => trivial) ?_ ?_⟩
  · exact same_new hrl _ _ upd_same
  · rintro i x σ H1 H1' hi ⟨v3, v4, v5, rl, ts, rfl, sH, hl, hts⟩ ⟨rfl, rfl⟩
    have : i = 0 := by omega
    subst this
    cases hts with
    | @cons t _ _ _ ht rest =>
    cases rest
    refine ⟨Nat.zero_le _, fun lg hlg => ?_⟩
    have s2 : Same H1' (upd H1' lg (.lst [])) := same_new hlg
    have hlgH := free_of sH hlg
    refine ⟨_, rfl, rl, rfl, ⟨_, SqL.of (s2 _ _ hl)⟩, for_it walk_list (fun j σ H' => ∃ v3 v5 ts', σ = [some (.int (S : Int)), some (.int (h : Int)), some (.ref rl), v3, some (.ref lg), v5, none] ∧ Same H1' H' ∧ H' lg = some (.lst (ts'.map V.ref)) ∧ TupsAt H' ts' (if j = 0 then [] else begI 1 h))
      ⟨_, _, [], rfl, s2, upd_same, .nil⟩ (fun j σ H' _ ⟨_, _, _, _, e, _⟩ => SqL.of (e _ _ hl)) ?_ ?_⟩
    · rintro j x σ H3 H3' hj ⟨v3, v5, ts', rfl, s3, hlg3, hts3⟩ ⟨rfl, hx⟩
      have : j = 0 := by
        have : j < 1 := hj
        omega
      subst this
      obtain rfl := Option.some.inj (show some (V.ref t) = some x from hx)
      cases hts3
      have ht3 : H3' t = some (iT []) := s3 _ _ ht
      refine ⟨_, rfl, .inl ⟨rfl, _, SqL.of hlg3⟩, ?_⟩
      refine ⟨_, rfl, _, rfl, t, [], rfl, ht3, _, _, rfl, rfl, _, _, rfl, rfl, _, rfl, ?_, ?_, fun D hD => lc_it (walk_range (lo := 0)) (fun i H' => Same H3' H' ∧ ∃ us, H' D = some (.lst (us.map V.ref)) ∧ TupsAt H' us ((List.range i).map fun (i : Nat) => [(i : Int)]))
        ⟨same_new hD, [], upd_same, .nil⟩ (fun _ _ _ _ => trivial) ?_ ?_⟩
      · show -(2 ^ 62) ≤ (h : Int) - 0 + 1
        omega
      · show (h : Int) - 0 + 1 < 2 ^ 62
        omega
      · rintro i x H4 H4' hi ⟨s4, us, hD4, hus⟩ ⟨rfl, rfl⟩
        have hi : i < ((h : Int) - 0 + 1).toNat := hi
        refine ⟨rfl, _, rfl, _, rfl, (by show 1 ≤ sizeLine; decide), fun T hT => ?_⟩
        have s5 := same_new (o := .tup [.int (0 + (i : Int))]) hT
        have hD5 := s5 _ _ hD4
        have t5 := (tst s5).trans (tst_lst (o := .lst (us.map V.ref ++ [.ref T])) hD5)
        have ul : us.length = _ := Paired.length hus
        rw [List.length_map, List.length_range] at ul
        refine ⟨t, T, [], _, rfl, rfl, Rd.of (s5 _ _ (s4 _ _ ht3)), Rd.of upd_same, (by show 0 + 1 ≤ sizeLine; decide), fun _ => ?_, fun z => absurd rfl z, fun z => absurd rfl z⟩
        refine ⟨_, hD5, by rw [List.length_map]; exact len_lt (by omega), same_upd (s4.trans s5) hD, us ++ [T], by rw [upd_same, List.map_append]; rfl, ?_⟩
        rw [List.range_succ, List.map_append]
        refine tups_snoc (tups_mono hus t5) (tst_lst (o := .lst (us.map V.ref ++ [.ref T])) hD5 _ _ ?_)
        rw [upd_same]
        show some (HO.tup [V.int (0 + (i : Int))]) = some (HO.tup [V.int (i : Int)])
        rw [Int.zero_add]
      · rintro H4 ⟨s4, us, hD4, hus⟩
        have e : ((h : Int) - ([] : List Int).sum + 1).toNat = h + 1 := by
          show ((h : Int) - 0 + 1).toNat = h + 1
          omega
        rw [e] at hus
        have ul : us.length = _ := Paired.length hus
        rw [List.length_map, List.length_range] at ul
        refine ⟨lg, D, [], us.map V.ref, rfl, rfl, s4 _ _ hlg3, hD4, by rw [List.length_map]; show 0 + us.length ≤ sizeLine; rw [ul]; exact small_le (by omega), ?_⟩
        refine ⟨_, _, us, rfl, same_upd (s3.trans s4) hlg, upd_same, ?_⟩
        rw [if_neg (by decide)]
        exact tups_mono hus (tst_lst (s4 _ _ hlg3))
    · rintro σ H3 ⟨v3, v5, ts', rfl, s3, hlg3, hts3⟩
      refine ⟨_, rfl, _, _, _, lg, ts', rfl, sH.trans s3, hlg3, hts3⟩
  rintro σ H1 ⟨v3, v4, v5, rl, ts, rfl, sH, hl, hts⟩
  have eS : ((S : Int) - 1).toNat = S - 1 := by omega
  rw [eS] at hts
  have h5 : (begI (S - 1) h).length ≤ 5 := by
    have : S = 1 ∨ S = 2 := by omega
    rcases this with e | e <;> subst e
    · show 1 ≤ 5
      omega
    · show (List.map _ (List.range (h + 1))).length ≤ 5
      rw [List.length_map, List.length_range]
      omega
  have tl : ts.length = (begI (S - 1) h).length := Paired.length hts
  refine ⟨_, rfl, rl, rfl, ⟨_, SqL.of hl⟩, fun D hD => lc_it walk_list (fun i H' => Same H1 H' ∧ ∃ us, H' D = some (.lst (us.map V.ref)) ∧ TupsAt H' us (((begI (S - 1) h).take i).map (endB h)))
    ⟨same_new hD, [], upd_same, .nil⟩ (fun i H' _ e => SqL.of (e.1 _ _ hl)) ?_ ?_⟩
  · rintro i x H4 H4' hi ⟨s4, us, hD4, hus⟩ ⟨rfl, hx⟩
    have hi' : i < ts.length := by rwa [List.length_map] at hi
    obtain ⟨t, hT⟩ : ∃ T, ts[i]? = some T := ⟨ts[i], List.getElem?_eq_getElem hi'⟩
    obtain rfl := ref_at hx hT
    obtain ⟨rw_, hrw, hTk⟩ := paired_getL (F := fun t (ns : List Int) => H1 t = some (.tup (ns.map V.int))) hts hT
    have hTk4 := s4 _ _ hTk
    have ul : us.length = _ := Paired.length hus
    rw [List.length_map, List.length_take] at ul
    obtain ⟨b1, b2, b3, b4⟩ := begI_ok h1 h2 (List.mem_of_getElem? hrw)
    have fin : ∀ (u : Addr) (H5 : Hp), Same H4' H5 → H5 u = some (iT (endB h rw_)) → ∃ acc, H5 D = some (.lst acc) ∧ acc.length < sizeLine ∧ (Same H1 (upd H5 D (.lst (acc ++ [.ref u]))) ∧ ∃ us, upd H5 D (.lst (acc ++ [.ref u])) D = some (.lst (us.map V.ref)) ∧ TupsAt (upd H5 D (.lst (acc ++ [.ref u]))) us (((begI (S - 1) h).take (i + 1)).map (endB h))) := fun u H5 s5 hu => by
      have hD5 := s5 _ _ hD4
      have t5 := (tst s5).trans (tst_lst (o := .lst (us.map V.ref ++ [.ref u])) hD5)
      refine ⟨_, hD5, by rw [List.length_map]; exact len_lt (by omega), same_upd (s4.trans s5) hD, us ++ [u], by rw [upd_same, List.map_append]; rfl, ?_⟩
      rw [take_snoc hrw, List.map_append]
      exact tups_snoc (tups_mono hus t5) (tst_lst (o := .lst (us.map V.ref ++ [.ref u])) hD5 _ _ hu)
    refine ⟨rfl, _, rfl, _, rfl, _, rfl, t, rw_, rfl, hTk4, _, _, rfl, rfl, (by show 1 ≤ sizeLine; decide), fun T hT' => ?_⟩
    have s5 := same_new (o := .tup [.int ((h : Int) - rw_.sum)]) hT'
    refine ⟨t, T, _, _, rfl, rfl, Rd.of (s5 _ _ hTk4), Rd.of upd_same, ?_, fun z => ?_, fun _ z => ?_, fun _ _ p hp => ?_⟩
    · rw [List.length_map]
      show rw_.length + 1 ≤ sizeLine
      exact small_le (by omega)
    · have e : rw_ = [] := List.map_eq_nil_iff.mp z
      subst e
      exact fin T _ s5 upd_same
    · cases z
    · refine fin p _ (s5.trans (same_new hp)) ?_
      rw [upd_same]
      unfold endB
      show some (HO.tup _) = some (HO.tup ((rw_ ++ [_]).map V.int))
      rw [List.map_append]
      rfl
  · rintro H4 ⟨s4, us, hD4, hus⟩
    rw [List.length_map, tl, List.take_length] at hus
    exact q H4 D us (sH.trans s4) hD4 hus
def spErrOf : Sp := fun vs H Q _ => ∃ (r b : Addr) (n : Nat) (R : Rule) (q : Qn), vs = [.ref r, .ref b, .int (n : Int), .int 1000] ∧ RuleAt H r R ∧ QAt H q b ∧ R.Ok ∧ q.dp < 3 ∧ q.Ok R.starts.length ∧ n ≤ 4 ∧
  ((∀ cs ∈ begAll R.starts.length n, Ans R q cs) → ∀ H', Same H H' → Q .non H') ∧
  (∀ l1 cs l2, begAll R.starts.length n = l1 ++ cs :: l2 → (∀ x ∈ l1, Ans R q x) → ¬ Ans R q cs → ∀ H' p, Same H H' → PaperAt H' p R q cs → Q (.ref p) H')
theorem asked_beg {R : Rule} {q : Qn} {cs : List Int} {h : Nat} (O : R.Ok) (hd : q.dp < 3) (hq : q.Ok R.starts.length) (h1 : 1 ≤ h) (h4 : h ≤ 4) (hc : cs ∈ begL R.starts.length h) : Asked R q cs := by
  obtain ⟨a1, a2, a3⟩ := begL_ok O.s1 O.s2 hc
  exact ⟨O, hd, by rw [a1]; exact hq, a1, a2, by omega, by omega⟩
theorem d_err_of {dvs : List V} (Z : BN mg) (A : AtD K mg "err_of" s_err_of ["rule", "question", "most", "limit"] dvs) (D_beginnings : Def P w K mg base 1 "beginnings" ["sorts", "hands"] [] spBeginnings) (D_err_at : Def P w K mg base 7 "err_at" ["rule", "question", "counts", "limit"] [] spErrAt) :
    Def P w K mg base 8 "err_of" ["rule", "question", "most", "limit"] dvs spErrOf := by
  refine A.def sc_err_of (fun vs H Q E h => ?_) (fun f cdv A outer s H vs Q E hr h => ?_)
  · obtain ⟨r, b, n, R, q, rfl, _⟩ := h
    rfl
  obtain ⟨r, b, n, R, qn, rfl, hR, hb, O, hd, hq, h4, q1, q2⟩ := h
  obtain ⟨st, m, y, ms, r0, r1, r2, r3, r4⟩ := hR.ex
  refine ⟨_, (pss_cons (ps_for PassesOwn.never rfl (pi_range2 (by rfl) Z.range (pa_cons pe_int (pa_cons (pe_op op_add (pv 2) pe_int) pa_nil))) (pg_name (i := 4) sc_err_of.nd rfl (Or.inl rfl))
      (pss_one (ps_for PassesOwn.never rfl (pi_list (pe_def D_beginnings hr rfl (pa_cons (pe_callB call_len0 (by rfl) Z.len (by decide +kernel) (pa_cons (pe_ix ix_tup0 (pv 0) pe_int (fun _ _ => rfl)) pa_nil)) (pa_cons (pv 4) pa_nil)))) (pg_name (i := 5) sc_err_of.nd rfl (Or.inl rfl))
        (pss_cons (ps_set (i := 6) sc_err_of.nd rfl (Or.inl rfl) (pe_def D_err_at hr rfl (pa_cons (pv 0) (pa_cons (pv 1) (pa_cons (pv 5) (pa_cons (pv 3) pa_nil))))))
        (pss_one (ps_if (pt_cmpR op_notN (pv 6) pe_non (by first | exact nomark _ | rfl)) (pss_one (ps_ret (pv 6))) pss_nil))))))
    (pss_one (ps_ret pe_non))), ?_⟩
  refine ⟨_, rfl, _, _, rfl, rfl, 1, (n : Int) + 1, rfl, by omega, for_it (walk_range (lo := 1) (n := ((n : Int) + 1 - 1).toNat)) (fun i σ H' => ∃ v4 v5 v6, σ = [some (.ref r), some (.ref b), some (.int (n : Int)), some (.int 1000), v4, v5, v6] ∧ Same H H' ∧ ∀ cs ∈ begAll R.starts.length i, Ans R qn cs)
    ⟨none, none, none, rfl, Same.refl _, fun cs hc => (by cases hc)⟩ (fun _ _ _ _ _ => trivial) ?_ ?_⟩
  · rintro i x σ H1 H1' hi ⟨v4, v5, v6, rfl, sH, hA⟩ ⟨rfl, rfl⟩
    have hi' : i < n := by omega
    obtain ⟨rest, hrest⟩ := begAll_split R.starts.length hi'
    refine ⟨_, rfl, r, _, _, _, rfl, rfl, Rd.of (sH _ _ r0), at_nat (j := 1) rfl, st, _, rfl, .inr (Rd.of (sH _ _ r1)), _, rfl, R.starts.length, i + 1, ?_, O.s1, O.s2, by omega, fun H2 p ts s2 hp hts => ?_⟩
    · rw [List.length_map]
      show [V.int (R.starts.length : Int), V.int (1 + (i : Int))] = _
      rw [show (1 : Int) + (i : Int) = ((i + 1 : Nat) : Int) by omega]
    have tl : (ts.map V.ref).length = (begL R.starts.length (i + 1)).length := by rw [List.length_map]; exact Paired.length hts
    refine ⟨p, rfl, ⟨_, SqL.of hp⟩, for_it walk_list (fun j σ H' => ∃ v5 v6, σ = [some (.ref r), some (.ref b), some (.int (n : Int)), some (.int 1000), some (.int (1 + (i : Int))), v5, v6] ∧ Same H2 H' ∧ ∀ cs ∈ (begL R.starts.length (i + 1)).take j, Ans R qn cs)
      ⟨_, _, rfl, Same.refl _, fun cs hc => (by cases hc)⟩ (fun j σ H' _ ⟨_, _, _, e, _⟩ => SqL.of (e _ _ hp)) ?_ ?_⟩
    · rintro j x σ H3 H3' hj ⟨v5, v6, rfl, s3, hA3⟩ ⟨rfl, hx⟩
      have hj' : j < ts.length := by rwa [List.length_map] at hj
      obtain ⟨a, hT⟩ : ∃ T, ts[j]? = some T := ⟨ts[j], List.getElem?_eq_getElem hj'⟩
      obtain rfl := ref_at hx hT
      obtain ⟨cs, hcs, ha⟩ := paired_getL (F := fun t (ns : List Int) => H2 t = some (.tup (ns.map V.int))) hts hT
      have s03 := (sH.trans s2).trans s3
      have AS := asked_beg O hd hq (by omega) (by omega) (List.mem_of_getElem? hcs)
      refine ⟨_, rfl, _, rfl, _, rfl, _, rfl, r, b, a, R, qn, cs, rfl, hR.mono (tst s03), hb.mono (tst s03), s3 _ _ ha, AS, fun hans H4 s4 => ?_, fun hno H4 p4 s4 hp4 => ?_⟩
      · refine ⟨_, rfl, rfl, _, rfl, iteF ⟨_, _, rfl, s3.trans s4, fun c hc => ?_⟩⟩
        rw [take_snoc hcs] at hc
        rcases List.mem_append.mp hc with z | z
        · exact hA3 c z
        · rw [List.mem_singleton.mp z]
          exact hans
      · refine ⟨_, rfl, rfl, _, rfl, iteT ⟨_, rfl, ?_⟩⟩
        have e : begL R.starts.length (i + 1) = (begL R.starts.length (i + 1)).take j ++ cs :: (begL R.starts.length (i + 1)).drop (j + 1) := by
          have hjl := (List.getElem?_eq_some_iff.mp hcs)
          obtain ⟨hl, he⟩ := hjl
          rw [← he, ← List.drop_eq_getElem_cons hl, List.take_append_drop]
        refine q2 (begAll R.starts.length i ++ (begL R.starts.length (i + 1)).take j) cs ((begL R.starts.length (i + 1)).drop (j + 1) ++ rest) ?_ (fun x hx => ?_) hno H4 p4 (s03.trans s4) hp4
        · rw [hrest]
          conv => lhs; rw [e]
          simp only [List.append_assoc, List.cons_append]
        · rcases List.mem_append.mp hx with z | z
          · exact hA x z
          · exact hA3 x z
    · rintro σ H3 ⟨v5, v6, rfl, s3, hA3⟩
      rw [tl, List.take_length] at hA3
      refine ⟨_, _, _, rfl, (sH.trans s2).trans s3, fun cs hc => ?_⟩
      rw [begAll_succ] at hc
      rcases List.mem_append.mp hc with z | z
      · exact hA cs z
      · exact hA3 cs z
  · rintro σ H1 ⟨v4, v5, v6, rfl, sH, hA⟩
    have e : ((n : Int) + 1 - 1).toNat = n := by omega
    rw [e] at hA
    exact q1 hA H1 sH
end
end PB
namespace PB
open PySem PySem.Spec PyProof.Rows L2
theorem SqT.frz {K : PySem.W.Frag} {H : Hp} {a : Addr} {o : Obj} {xs : List V} (h : H a = some (.frz o (.tup xs))) : SqT K H a xs := .inl (.inr ⟨o, h⟩)
theorem in_nat {l : List Nat} {k : Nat} (h : k ∈ l) : inV (.int (k : Int)) (nV l) = true := by
  unfold inV
  rw [List.any_eq_true]
  exact ⟨_, List.mem_map.mpr ⟨k, h, rfl⟩, by show ((k : Int) == (k : Int)) = true; exact beq_self_eq_true _⟩
theorem flat_nat (l : List Nat) : (nV l).all flatV = true := by
  rw [List.all_eq_true]
  intro x hx
  obtain ⟨k, _, rfl⟩ := List.mem_map.mp hx
  rfl
section
variable {P : Program} {w : World} {K : PySem.W.Frag} {mg : Str → Option Value} {base : Heap}
def spPassed : Sp := fun vs H Q _ => ∃ (r a n : Addr) (z : Str) (R : Rule) (c d : List Int) (js : List Nat), vs = [.ref r, .ref a, .ref n, .str z] ∧ RuleAt H r R ∧ Few R c ∧ H a = some (iT c) ∧ H n = some (.tup (nV js)) ∧ js.length ≤ 100 ∧ WalkTo R c js d ∧
  ∀ H' p ts u, Same H H' → H' p = some (.lst (ts ++ [.ref u])) → H' u = some (iT d) → Q (.ref p) H'
theorem d_passed_along (Z : BN mg) (A : At K mg "passed_along" s_passed_along ["rule", "crowd", "numbers", "word"]) (D_is_number : Def P w K mg base 1 "is_number" ["thing"] [] spIsNumber) (D_can : Def P w K mg base 2 "can" ["rule", "crowd"] [] spCan) (D_met : Def P w K mg base 3 "met" ["rule", "crowd", "number"] [] spMet) :
    Def P w K mg base 4 "passed_along" ["rule", "crowd", "numbers", "word"] [] spPassed := by
  refine A.def sc_passed_along (fun vs H Q E h => ?_) (fun f cdv A outer s H vs Q E hr h => ?_)
  · obtain ⟨r, a, n, z, R, c, d, js, rfl, _⟩ := h
    rfl
  obtain ⟨r, a, n, z, R, c, d, js, rfl, hR, F, ha, hn, hj, hw, q⟩ := h
  refine ⟨_, (pss_cons (ps_set (i := 4) sc_passed_along.nd rfl (Or.inl rfl) (pe_lst (pa_cons (pv 1) pa_nil)))
    (pss_cons (ps_for PassesOwn.never rfl (pi_enumT (by rfl) Z.enumerate (pa_cons (pv 2) pa_nil)) (pg_tup0 rfl (pgs_cons (pg_name (i := 5) sc_passed_along.nd rfl (Or.inl rfl)) (pgs_cons (pg_name (i := 6) sc_passed_along.nd rfl (Or.inl rfl)) pgs_nil)))
      (pss_cons (ps_if (PW.pt (pw_or (pt_not (pt_val (pe_def D_is_number hr rfl (pa_cons (pv 6) pa_nil)))) (pw_or1 (pt_cmpR op_notIn0 (pv 6) (pe_def D_can hr rfl (pa_cons (pv 0) (pa_cons (pe_ix ix_list0 (pv 4) (pe_un un_neg pe_int) (fun _ _ => rfl)) pa_nil))) (by first | exact nomark _ | rfl))))) (pss_one (ps_never)) pss_nil)
      (pss_one (ps_expr (pe_bm PySem.F.plainAttrs_list PySem.F.slot_list_append PySem.F.type_list_append mt_append (pv 4) (pa_cons (pe_def D_met hr rfl (pa_cons (pv 0) (pa_cons (pe_ix ix_list0 (pv 4) (pe_un un_neg pe_int) (fun _ _ => rfl)) (pa_cons (pv 6) pa_nil)))) pa_nil))))))
    (pss_one (ps_ret (pv 4))))), ?_⟩
  refine ⟨_, rfl, (by show 1 ≤ sizeLine; decide), fun l hl => ?_⟩
  have s0 : Same H (upd H l (.lst [.ref a])) := same_new hl
  refine ⟨_, rfl, n, _, rfl, SqT.of (s0 _ _ hn), for_it walk_enumT (fun i σ H' => ∃ v5 v6 ts u c', σ = [some (.ref r), some (.ref a), some (.ref n), some (.str z), some (.ref l), v5, v6] ∧ Same H H' ∧ H' l = some (.lst (ts ++ [.ref u])) ∧ H' u = some (iT c') ∧ Comes R c c' ∧ WalkTo R c' (js.drop i) d ∧ ts.length = i)
    ⟨none, none, [], a, c, rfl, s0, upd_same, s0 _ _ ha, .refl, hw, rfl⟩ (fun i σ H' _ ⟨_, _, _, _, _, _, h, _⟩ => SqT.of (h _ _ hn)) ?_ ?_⟩
  · rintro i x σ H1 H1' hi ⟨v5, v6, ts, u, c', rfl, sH, hl1, hu1, hc, hwk, htl⟩ ⟨T, x1, p, rfl, hT, rfl, e1, e2⟩
    have hi' : i < js.length := by rwa [List.length_map] at hi
    have e2 : (nV js)[i]? = some p := e2
    rw [get_nat hi'] at e2
    obtain rfl := Option.some.inj e2
    obtain rfl : V.int (i : Int) = x1 := Option.some.inj e1
    generalize hk : js.getD i 0 = k
    have hd : js.drop i = k :: js.drop (i + 1) := by
      rw [List.drop_eq_getElem_cons hi', ← hk, List.getD_eq_getElem?_getD, List.getElem?_eq_getElem hi']
      rfl
    rw [hd] at hwk
    obtain ⟨w1, w2⟩ := hwk
    have s2 : Same H1 (upd H1 T (.tup [.int (i : Int), .int (k : Int)])) := same_new (hT)
    have sH2 := sH.trans s2
    have Fc := F.comes hc
    refine ⟨T, _, rfl, Rd.of upd_same, rfl, _, _, rfl, _, _, rfl, rfl, ?_⟩
    refine ⟨_, rfl, _, rfl, true, ?_, iteF ?_⟩
    · rw [decide_eq_true (by omega)]
    refine ⟨_, rfl, _, rfl, _, rfl, _, rfl, l, _, _, _, rfl, rfl, Rd.of (s2 _ _ hl1), atI_last _ _, r, u, R, c', rfl, hR.mono (tst sH2), F.ok, s2 _ _ hu1, Fc.len, fun H3 cn s3 _ hcn => ?_⟩
    refine ⟨cn, _, rfl, .inl (Rd.of hcn), rfl, flat_nat _, _, rfl, ?_⟩
    rw [in_nat w1]
    refine iteF ?_
    have s13 := s2.trans s3
    refine ⟨_, rfl, .inl ⟨rfl, _, SqL.of (s13 _ _ hl1)⟩, _, rfl, _, rfl, _, rfl, l, _, _, _, rfl, rfl, Rd.of (s13 _ _ hl1), atI_last _ _, _, rfl, r, u, k, R, c', rfl, hR.mono (tst (sH.trans s13)), F.ok, s13 _ _ hu1, Fc.len, w1, fun H4 u4 s4 _ hu4 => ?_⟩
    have s14 := s13.trans s4
    have hl4 := s14 _ _ hl1
    refine ⟨l, _, _, rfl, rfl, hl4, ?_, ?_⟩
    · rw [List.length_append, htl]
      exact len_lt (by show i + 1 ≤ 1000; omega)
    · refine ⟨_, _, ts ++ [.ref u], u4, behind c' (R.mt k), rfl, same_upd (sH.trans s14) hl, by rw [upd_same], tst_lst hl4 _ _ hu4, hc.step (mem_nexts.mpr ⟨k, w1, rfl⟩), w2, by rw [List.length_append, htl]; rfl⟩
  · rintro σ H1 ⟨v5, v6, ts, u, c', rfl, sH, hl1, hu1, hc, hwk, htl⟩
    rw [List.length_map, List.drop_length] at hwk
    have hwk : c' = d := hwk
    subst hwk
    exact ⟨_, rfl, q H1 l ts u sH hl1 hu1⟩
def spAskShape : Sp := fun vs H Q _ => ∃ (r p : Addr) (R : Rule) (q : Qn) (cs : List Int), vs = [.ref r, .ref p] ∧ RuleAt H r R ∧ Asked R q cs ∧ PaperAt H p R q cs ∧ ∀ H', Same H H' → Q .non H'
theorem d_ask_shape (Z : BN mg) (T : GN mg) (A : At K mg "ask_shape" s_ask_shape ["rule", "thing"]) (D_is_counts : Def P w K mg base 3 "is_counts" ["sorts", "thing"] [] spIsCounts) : Def P w K mg base 4 "ask_shape" ["rule", "thing"] [] spAskShape := by
  refine A.def sc_ask_shape (fun vs H Q E h => ?_) (fun f cdv A outer s H vs Q E hr h => ?_)
  · obtain ⟨r, p, R, qn, cs, rfl, _⟩ := h
    rfl
  obtain ⟨r, p, R, qn, cs, rfl, hR, AS, hP, q⟩ := h
  obtain ⟨a, n, rk, o, ts, rows, f, js, d, hp, ha, hn, h4, h5, h6, h7, h8, h9⟩ := hP.ex
  obtain ⟨st, m, y, ms, r0, r1, r2, r3, r4⟩ := hR.ex
  obtain ⟨tk, g_MOST_HANDS_errchecker⟩ := T.handsE
  refine ⟨_, (pss_cons (ps_if (PW.pt (pw_or (pt_not (pt_val (pe_callB call_is3 (by rfl) Z.isinstance (by decide +kernel) (pa_cons (pv 1) (pa_cons (pe_bltn (v := .ty "tuple") (u := .type "tuple") (by rfl) Z.tuple (by decide +kernel) rfl) pa_nil))))) (pw_or (pt_cmpR op_ne (pe_callB call_len0 (by rfl) Z.len (by decide +kernel) (pa_cons (pv 1) pa_nil)) pe_int (by first | exact nomark _ | rfl)) (pw_or1 (pt_not (pt_val (pe_def D_is_counts hr rfl (pa_cons (pe_callB call_len0 (by rfl) Z.len (by decide +kernel) (pa_cons (pe_ix ix_tup0 (pv 0) pe_int (fun _ _ => rfl)) pa_nil)) (pa_cons (pe_ix ix_tup0 (pv 1) pe_int (fun _ _ => rfl)) pa_nil))))))))) (pss_one (ps_never)) pss_nil)
    (pss_one (ps_if (PW.pt (pw_or (pt_cmpR op_gt (pe_callB (cr_sumT rfl) (by rfl) Z.sum (by decide +kernel) (pa_cons (pe_ix ix_tup0 (pv 1) pe_int (fun _ _ => rfl)) pa_nil)) (pe_glob (v := .int 60) rfl g_MOST_HANDS_errchecker ⟨_, rfl⟩) (by first | exact nomark _ | rfl)) (pw_or (pt_not (pt_val (pe_callB call_is3 (by rfl) Z.isinstance (by decide +kernel) (pa_cons (pe_ix ix_tup0 (pv 1) pe_int (fun _ _ => rfl)) (pa_cons (pe_bltn (v := .ty "tuple") (u := .type "tuple") (by rfl) Z.tuple (by decide +kernel) rfl) pa_nil))))) (pw_or1 (pt_not (pt_val (pe_callB call_is3 (by rfl) Z.isinstance (by decide +kernel) (pa_cons (pe_ix ix_tup0 (pv 1) pe_int (fun _ _ => rfl)) (pa_cons (pe_bltn (v := .ty "tuple") (u := .type "tuple") (by rfl) Z.tuple (by decide +kernel) rfl) pa_nil))))))))) (pss_one (ps_never)) pss_nil))), ?_⟩
  refine ⟨_, rfl, .inr (.inr ⟨p, _, rfl, Rd.of hp, true, rfl, iteF ?_⟩)⟩
  refine ⟨_, rfl, p, _, rfl, .inr (Rd.of hp), rfl, _, rfl, ifW (by rfl) ?_⟩
  refine ⟨_, rfl, r, _, _, _, rfl, rfl, Rd.of r0, at_nat (j := 1) rfl, st, _, rfl, .inr (Rd.of r1), _, rfl, p, _, _, _, rfl, rfl, Rd.of hp, at_nat (j := 0) rfl, a, cs, ?_, ha, AS.len, ?_, ?_, fun H1 s1 => ?_⟩
  · rw [List.length_map, AS.bg.len]
    rfl
  · have cb := cr_bd (n := cs.length) (h := cs.sum) ⟨rfl, AS.bg.pos, rfl⟩ AS.bg.sum4
    intro x hx
    have := cb x hx
    omega
  · have := AS.bg.sum1
    omega
  refine ⟨true, rfl, iteF ?_⟩
  have s4 := AS.bg.sum4
  refine ⟨_, rfl, p, _, _, _, rfl, rfl, Rd.of (s1 _ _ hp), at_nat (j := 0) rfl, a, cs, rfl, s1 _ _ ha, _, _, rfl, rfl, _, rfl, ifW (decide_eq_false (by omega)) ?_⟩
  refine ⟨_, rfl, p, _, _, _, rfl, rfl, Rd.of (s1 _ _ hp), at_nat (j := 1) rfl, .inr (.inr ⟨n, _, rfl, Rd.of (s1 _ _ hn), true, rfl, iteF ?_⟩)⟩
  refine ⟨_, rfl, p, _, _, _, rfl, rfl, Rd.of (s1 _ _ hp), at_nat (j := 2) rfl, .inr (.inr ⟨rk, _, rfl, .inr ⟨o, s1 _ _ h6⟩, true, rfl, iteF ?_⟩)⟩
  exact q H1 s1
def spIsRanked : Sp := fun vs H Q _ => ∃ (r t b : Addr) (h : Int) (k : Nat) (R : Rule) (c : List Int), vs = [.ref r, .ref t, .int h] ∧ RuleAt H r R ∧ R.Ok ∧ H t = some (.tup [.ref b, .int (k : Int)]) ∧ H b = some (iT c) ∧ Cr R.n h c ∧ 1 ≤ h ∧ ∀ H', Same H H' → Q (.bl true) H'
theorem d_is_ranked (Z : BN mg) (A : At K mg "is_ranked" s_is_ranked ["rule", "thing", "hands"]) (D_is_number : Def P w K mg base 1 "is_number" ["thing"] [] spIsNumber) (D_is_crowd : Def P w K mg base 2 "is_crowd" ["rule", "thing"] [] spIsCrowd) : Def P w K mg base 3 "is_ranked" ["rule", "thing", "hands"] [] spIsRanked := by
  refine A.def sc_is_ranked (fun vs H Q E h => ?_) (fun f cdv A outer s H vs Q E hr h => ?_)
  · obtain ⟨r, t, b, h, k, R, c, rfl, _⟩ := h
    rfl
  obtain ⟨r, t, b, h, k, R, c, rfl, hR, O, ht, hb, C, h1, q⟩ := h
  refine ⟨_, (pss_cons (ps_if (PW.pt (pw_or (pt_not (pt_val (pe_callB call_is3 (by rfl) Z.isinstance (by decide +kernel) (pa_cons (pv 1) (pa_cons (pe_bltn (v := .ty "tuple") (u := .type "tuple") (by rfl) Z.tuple (by decide +kernel) rfl) pa_nil))))) (pw_or (pt_cmpR op_ne (pe_callB call_len0 (by rfl) Z.len (by decide +kernel) (pa_cons (pv 1) pa_nil)) pe_int (by first | exact nomark _ | rfl)) (pw_or1 (pt_not (pt_val (pe_def D_is_number hr rfl (pa_cons (pe_ix ix_tup0 (pv 1) pe_int (fun _ _ => rfl)) pa_nil)))))))) (pss_one (ps_ret pe_bl)) pss_nil)
    (pss_one (ps_ret (pe_and (pe_def D_is_crowd hr rfl (pa_cons (pv 0) (pa_cons (pe_ix ix_tup0 (pv 1) pe_int (fun _ _ => rfl)) pa_nil))) (pe_one (pe_cmpR op_eq (pe_callB (cr_sumT rfl) (by rfl) Z.sum (by decide +kernel) (pa_cons (pe_ix ix_tup0 (pv 1) pe_int (fun _ _ => rfl)) pa_nil)) (pv 2) (by first | exact nomark _ | rfl))))))), ?_⟩
  refine ⟨_, rfl, .inr (.inr ⟨t, _, rfl, Rd.of ht, true, rfl, iteF ?_⟩)⟩
  refine ⟨_, rfl, t, _, rfl, .inr (Rd.of ht), rfl, _, rfl, ifW (by rfl) ?_⟩
  refine ⟨_, rfl, t, _, _, _, rfl, rfl, Rd.of ht, at_nat (j := 1) rfl, _, rfl, true, ?_, iteF ?_⟩
  · rw [decide_eq_true (by omega)]
  refine ⟨_, rfl, _, rfl, t, _, _, _, rfl, rfl, Rd.of ht, at_nat (j := 0) rfl, r, b, R, c, rfl, hR, O, hb, C.len, C.pos, by rw [C.sum]; omega, fun H1 s1 => ?_⟩
  refine ⟨true, rfl, iteT ⟨_, rfl, t, _, _, _, rfl, rfl, Rd.of (s1 _ _ ht), at_nat (j := 0) rfl, b, c, rfl, s1 _ _ hb, _, rfl, rfl, ?_⟩⟩
  rw [decide_eq_true (by rw [C.sum])]
  exact q H1 s1
def spAskRanks : Sp := fun vs H Q _ => ∃ (r rk : Addr) (h : Int) (R : Rule) (o : Obj) (ts : List Addr) (rows : List (List Int)) (f : List Int → Nat), vs = [.ref r, .ref rk, .int h] ∧ RuleAt H r R ∧ R.Ok ∧ H rk = some (.frz o (.tup (ts.map V.ref))) ∧ RowsAt H ts rows f ∧ (∀ k ∈ rows, Cr R.n h k) ∧ 1 ≤ h ∧
  rows.Pairwise (fun x y => HT.lexLt x y = true) ∧ ∀ H', Same H H' → Q .non H'
theorem d_ask_ranks (Z : BN mg) (A : At K mg "ask_ranks" s_ask_ranks ["rule", "ranks", "hands"]) (D_is_ranked : Def P w K mg base 3 "is_ranked" ["rule", "thing", "hands"] [] spIsRanked) : Def P w K mg base 4 "ask_ranks" ["rule", "ranks", "hands"] [] spAskRanks := by
  refine A.def sc_ask_ranks (fun vs H Q E h => ?_) (fun f cdv A outer s H vs Q E hr h => ?_)
  · obtain ⟨r, rk, h, R, o, ts, rows, f, rfl, _⟩ := h
    rfl
  obtain ⟨r, rk, h, R, o, ts, rows, f, rfl, hR, O, hrk, hts, hC, h1, hp, q⟩ := h
  refine ⟨_, (pss_one (ps_for PassesOwn.never rfl (pi_enumT (by rfl) Z.enumerate (pa_cons (pv 1) pa_nil)) (pg_tup0 rfl (pgs_cons (pg_name (i := 3) sc_ask_ranks.nd rfl (Or.inl rfl)) (pgs_cons (pg_name (i := 4) sc_ask_ranks.nd rfl (Or.inl rfl)) pgs_nil)))
      (pss_one (ps_if (PW.pt (pw_or (pt_not (pt_val (pe_def D_is_ranked hr rfl (pa_cons (pv 0) (pa_cons (pv 4) (pa_cons (pv 2) pa_nil)))))) (pw_or1 (PW.pt (pw_and (pt_cmpR op_gt (pv 3) pe_int (by first | exact nomark _ | rfl)) (pw_and1 (pt_not (pt_cmpR (op_ltT0 hr.units0) (pe_ix ix_tup0 (pe_ix ix_tup0 (pv 1) (pe_op op_sub (pv 3) pe_int) (fun _ _ => rfl)) pe_int (fun _ _ => rfl)) (pe_ix ix_tup0 (pv 4) pe_int (fun _ _ => rfl)) (by first | exact nomark _ | rfl))))))))) (pss_one (ps_never)) pss_nil)))), ?_⟩
  refine ⟨_, rfl, rk, _, rfl, SqT.frz hrk, for_it walk_enumT (fun i σ H' => ∃ v3 v4, σ = [some (.ref r), some (.ref rk), some (.int h), v3, v4] ∧ Same H H')
    ⟨none, none, rfl, Same.refl _⟩ (fun i σ H' _ ⟨_, _, _, s1⟩ => SqT.frz (s1 _ _ hrk)) ?_ ?_⟩
  · rintro i x σ H1 H1' hi ⟨v3, v4, rfl, sH⟩ ⟨T, x1, pp, rfl, hT, rfl, e1, e2⟩
    have hi' : i < ts.length := by rwa [List.length_map] at hi
    obtain ⟨t, ht⟩ : ∃ T, ts[i]? = some T := ⟨ts[i], List.getElem?_eq_getElem hi'⟩
    obtain rfl := ref_at e2 ht
    obtain rfl : V.int (i : Int) = x1 := Option.some.inj e1
    have s2 : Same H (upd H1 T (.tup [.int (i : Int), .ref t])) := sH.trans (same_new hT)
    obtain ⟨k, hk, b, htb, hbk⟩ := paired_getL (F := fun t (k : List Int) => ∃ b, H t = some (.tup [.ref b, .int (f k : Int)]) ∧ H b = some (iT k)) hts ht
    have hkm := List.mem_of_getElem? hk
    refine ⟨T, _, rfl, Rd.of upd_same, rfl, _, _, rfl, _, _, rfl, rfl, ?_⟩
    refine ⟨_, rfl, _, rfl, _, rfl, r, t, b, h, f k, R, k, rfl, hR.mono (tst s2), O, s2 _ _ htb, s2 _ _ hbk, hC k hkm, h1, fun H3 s3 => ?_⟩
    refine ⟨true, rfl, iteF ?_⟩
    have s4 := s2.trans s3
    refine ⟨_, rfl, _, _, rfl, rfl, _, rfl, ?_⟩
    refine ite2 (fun h0 => ?_) (fun _ => ?_)
    · have h0 : (0 : Int) < (i : Int) := of_decide_eq_true h0
      obtain ⟨j, rfl⟩ : ∃ j, i = j + 1 := ⟨i - 1, by omega⟩
      have hj : j < ts.length := by omega
      obtain ⟨t', ht'⟩ : ∃ T, ts[j]? = some T := ⟨ts[j], List.getElem?_eq_getElem hj⟩
      obtain ⟨k', hk', b', htb', hbk'⟩ := paired_getL (F := fun t (k : List Int) => ∃ b, H t = some (.tup [.ref b, .int (f k : Int)]) ∧ H b = some (iT k)) hts ht'
      refine ⟨_, rfl, _, rfl, _, _, rfl, rfl, rk, _, _, _, rfl, rfl, .inr ⟨o, s4 _ _ hrk⟩, ?_, t', _, _, _, rfl, rfl, Rd.of (s4 _ _ htb'), at_nat (j := 0) rfl, _, rfl, t, _, _, _, rfl, rfl, Rd.of (s4 _ _ htb), at_nat (j := 0) rfl, b', b, k', k, rfl, rfl, s4 _ _ hbk', s4 _ _ hbk, _, rfl, ?_⟩
      · rw [show (((j + 1 : Nat) : Int) - 1) = (j : Int) by omega]
        exact at_nat (by rw [List.getElem?_map, ht']; rfl)
      · obtain ⟨l1, e1⟩ := List.getElem?_eq_some_iff.mp hk'
        obtain ⟨l2, e2⟩ := List.getElem?_eq_some_iff.mp hk
        have := List.pairwise_iff_getElem.mp hp j (j + 1) l1 l2 (by omega)
        rw [e1, e2] at this
        rw [this]
        exact iteF ⟨_, _, rfl, s4⟩
    · exact iteF ⟨_, _, rfl, s4⟩
  · rintro σ H1 ⟨v3, v4, rfl, sH⟩
    exact q H1 sH
end
end PB
namespace PB
open PySem PySem.Spec PyProof.Rows L2
theorem rows_pairs {H : Hp} {f : List Int → Nat} : ∀ {ts : List Addr} {rows : List (List Int)}, RowsAt H ts rows f → PairsT H ts (fkv (rkV f) rows)
  | _, _, .nil => .nil
  | _, _, .cons ⟨b, h1, h2⟩ t => .cons ⟨b, h1, by rw [ck_kV]; exact h2⟩ (rows_pairs t)
theorem all_rep (n : Nat) : (List.replicate n true).all id = true := by
  rw [List.all_eq_true]
  intro x hx
  rw [(List.mem_replicate.mp hx).2]
  rfl
section
variable {P : Program} {w : World} {K : PySem.W.Frag} {mg : Str → Option Value} {base : Heap}
def spAskWays : Sp := fun vs H Q _ => ∃ (r rk : Addr) (z : Bool) (R : Rule) (d : List Int) (o : Obj) (ts : List Addr) (rows : List (List Int)) (f : List Int → Nat), vs = [.ref r, .ref rk, .str (wordOf z)] ∧ RuleAt H r R ∧ Few R d ∧ H rk = some (.frz o (.tup (ts.map V.ref))) ∧ o.dict = none ∧ RowsAt H ts rows f ∧
  AllOf R d rows ∧ (∀ k ∈ rows, f k = 0 → wrongB R z k = true) ∧ (∀ k ∈ rows, 0 < f k → ∃ e ∈ nexts R k, f e < f k) ∧ ∀ H', Same H H' → Q .non H'
theorem d_ask_ways (Z : BN mg) (A : At K mg "ask_ways" s_ask_ways ["rule", "ranks", "word"]) (D_can : Def P w K mg base 2 "can" ["rule", "crowd"] [] spCan) (D_met : Def P w K mg base 3 "met" ["rule", "crowd", "number"] [] spMet) (D_said : Def P w K mg base 1 "said" ["rule", "crowd"] [] spSaid) :
    Def P w K mg base 4 "ask_ways" ["rule", "ranks", "word"] [] spAskWays := by
  refine A.def sc_ask_ways (fun vs H Q E h => ?_) (fun f cdv A outer s H vs Q E hr h => ?_)
  · obtain ⟨r, rk, z, R, d, o, ts, rows, f, rfl, _⟩ := h
    rfl
  obtain ⟨r, rk, z, R, d, o, ts, rows, f, rfl, hR, F, hrk, ho, hts, AO, hz, hf, q⟩ := h
  have hu := hu_of hr
  obtain ⟨hn, hn1, hn4, CR⟩ := F.ex
  have r35 : rows.length ≤ 35 := F.few AO.nd fun k hk => (AO.all k).mp hk
  refine ⟨_, (pss_cons (ps_set (i := 3) sc_ask_ways.nd rfl (Or.inr rfl) (pe_callTy (cr_dictT rfl hr.units) (by rfl) Z.dict (by decide +kernel) (pa_cons (pv 1) pa_nil)))
    (pss_one (ps_for PassesOwn.never rfl (pi_enumT (by rfl) Z.enumerate (pa_cons (pv 1) pa_nil)) (pg_tup0 rfl (pgs_cons (pg_name (i := 4) sc_ask_ways.nd rfl (Or.inl rfl)) (pgs_cons (pg_name (i := 5) sc_ask_ways.nd rfl (Or.inl rfl)) pgs_nil)))
      (pss_cons (ps_asg (pv 5) (pg_tup0 rfl (pgs_cons (pg_name (i := 6) sc_ask_ways.nd rfl (Or.inr rfl)) (pgs_cons (pg_name (i := 7) sc_ask_ways.nd rfl (Or.inr rfl)) pgs_nil))))
      (pss_cons (ps_setLc (i := 8) (own := [("number", 9)]) (g := (gName 9)) rfl sc_ask_ways.nd rfl rfl (sw_true rfl rfl rfl (by decide +kernel)) (pi_list (pe_def D_can hr rfl (pa_cons (pv 0) (pa_cons (pv 6) pa_nil)))) (blkOk_by (own := [("number", 9)]) (N := N_ask_ways) (sc := defScope s_ask_ways) (by decide +kernel)) (fun _ _ _ _ _ => (pg_name (i := 9) sc_ask_ways.nd rfl (Or.inl rfl))) (fun _ _ _ _ _ => pts_nil) (fun _ _ _ _ _ => (pe_def D_met hr rfl (pa_cons (pv 0) (pa_cons (pv 6) (pa_cons (pv 9) pa_nil))))))
      (pss_cons (ps_if (pt_not (pt_val (pe_callB (cr_all0 rfl) (by rfl) Z.all (by decide +kernel) (pa_cons (pe_lc (own := [("other", 10)]) (g := (gName 10)) rfl sc_ask_ways.nd (pi_list (pv 8)) (blkOk_by (own := [("other", 10)]) (N := N_ask_ways) (sc := defScope s_ask_ways) (by decide +kernel)) (fun _ _ _ _ _ => (pg_name (i := 10) sc_ask_ways.nd rfl (Or.inl rfl))) (fun _ _ _ _ _ => pts_nil) (fun _ _ _ _ _ => (pe_cmp (pc_din hu (pv 10) (pv 3))))) pa_nil)))) (pss_one (ps_never)) pss_nil)
      (pss_cons (ps_if (PW.pt (pw_and (pt_cmpR op_eq (pv 7) pe_int (by first | exact nomark _ | rfl)) (pw_and1 (pt_cmpR op_eq (pe_def D_said hr rfl (pa_cons (pv 0) (pa_cons (pv 6) pa_nil))) (pv 2) (by first | exact nomark _ | rfl))))) (pss_one (ps_never)) pss_nil)
      (pss_one (ps_if (PW.pt (pw_and (pt_cmpR op_gt (pv 7) pe_int (by first | exact nomark _ | rfl)) (pw_and1 (pt_not (pt_val (pe_callB (cr_any0 rfl) (by rfl) Z.any (by decide +kernel) (pa_cons (pe_lc (own := [("other", 10)]) (g := (gName 10)) rfl sc_ask_ways.nd (pi_list (pv 8)) (blkOk_by (own := [("other", 10)]) (N := N_ask_ways) (sc := defScope s_ask_ways) (by decide +kernel)) (fun _ _ _ _ _ => (pg_name (i := 10) sc_ask_ways.nd rfl (Or.inl rfl))) (fun _ _ _ _ _ => pts_nil) (fun _ _ _ _ _ => (pe_cmpR op_lt (pe_dget hu (pv 3) (pv 10) (fun _ _ => rfl)) (pv 7) (by first | exact nomark _ | rfl)))) pa_nil))))))) (pss_one (ps_never)) pss_nil))))))))), ?_⟩
  refine ⟨_, rfl, rk, o, ts, fkv (rkV f) rows, rfl, hrk, ho, rows_pairs hts, by rw [fkv_keys]; exact ck_nodup AO.nd, fun D hD => ?_⟩
  have s0 : Same H (upd H D (.dT (fkv (rkV f) rows))) := same_new hD
  refine ⟨_, rfl, rk, _, rfl, SqT.frz (s0 _ _ hrk), for_it walk_enumT (fun i σ H' => ∃ v4 v5 v6 v7 v8, σ = [some (.ref r), some (.ref rk), some (.str (wordOf z)), some (.ref D), v4, v5, v6, v7, v8, none, none] ∧ Same H H' ∧ H' D = some (.dT (fkv (rkV f) rows)))
    ⟨none, none, none, none, none, rfl, s0, upd_same⟩ (fun i σ H' _ ⟨_, _, _, _, _, _, s1, _⟩ => SqT.frz (s1 _ _ hrk)) ?_ ?_⟩
  · rintro i x σ H1 H1' hi ⟨v4, v5, v6, v7, v8, rfl, sH, hD1⟩ ⟨T, x1, pp, rfl, hT, rfl, e1, e2⟩
    have hi' : i < ts.length := by rwa [List.length_map] at hi
    obtain ⟨t, ht⟩ : ∃ T, ts[i]? = some T := ⟨ts[i], List.getElem?_eq_getElem hi'⟩
    obtain rfl := ref_at e2 ht
    obtain rfl : V.int (i : Int) = x1 := Option.some.inj e1
    have s2 : Same H1 (upd H1 T (.tup [.int (i : Int), .ref t])) := same_new hT
    have sH2 := sH.trans s2
    obtain ⟨k, hk, b, htb, hbk⟩ := paired_getL (F := fun t (k : List Int) => ∃ b, H t = some (.tup [.ref b, .int (f k : Int)]) ∧ H b = some (iT k)) hts ht
    have hkm := List.mem_of_getElem? hk
    have Fk := F.comes ((AO.all k).mp hkm)
    have hD2 := s2 _ _ hD1
    refine ⟨T, _, rfl, Rd.of upd_same, rfl, _, _, rfl, _, _, rfl, rfl, ?_⟩
    refine ⟨_, rfl, t, _, rfl, Rd.of (sH2 _ _ htb), rfl, _, _, rfl, _, _, rfl, rfl, ?_⟩
    -- behind
    refine ⟨_, rfl, _, rfl, r, b, R, k, rfl, hR.mono (tst sH2), F.ok, sH2 _ _ hbk, Fk.len, fun H3 cn s3 _ hcn => ?_⟩
    have sH3 := sH2.trans s3
    refine ⟨cn, rfl, ⟨_, SqL.of hcn⟩, fun L hL => lc_it walk_list (fun j H' => Same H3 H' ∧ ∃ us, H' L = some (.lst (us.map V.ref)) ∧ TupsAt H' us ((nexts R k).take j))
      ⟨same_new hL, [], upd_same, .nil⟩ (fun j H' _ e => SqL.of (e.1 _ _ hcn)) ?_ ?_⟩
    · rintro j x H4 H4' hj ⟨s4, us, hL4, hus⟩ ⟨rfl, hx⟩
      have hj' : j < (canL R k).length := by rwa [List.length_map] at hj
      rw [get_nat hj'] at hx
      obtain rfl := Option.some.inj hx
      generalize hc : (canL R k).getD j 0 = c
      have hcm : c ∈ canL R k := by
        rw [← hc, List.getD_eq_getElem?_getD, List.getElem?_eq_getElem hj']
        exact List.getElem_mem hj'
      have sH4 := sH3.trans s4
      refine ⟨rfl, _, rfl, _, rfl, _, rfl, r, b, c, R, k, ?_, hR.mono (tst sH4), F.ok, sH4 _ _ hbk, Fk.len, hcm, fun H5 u s5 _ hu5 => ?_⟩
      · rfl
      have hL5 := s5 _ _ hL4
      have t5 := (tst s5).trans (tst_lst (o := .lst (us.map V.ref ++ [.ref u])) hL5)
      have ul : us.length = _ := Paired.length hus
      rw [List.length_take] at ul
      refine ⟨_, hL5, ?_, same_upd (s4.trans s5) hL, us ++ [u], by rw [upd_same, List.map_append]; rfl, ?_⟩
      · rw [List.length_map]
        have c1 : (canL R k).length ≤ R.meets.length := canI_len R k R.meets.length
        have c2 := F.ok.ml
        exact len_lt (by omega)
      · have e1 : (nexts R k).take (j + 1) = (nexts R k).take j ++ [behind k (R.mt c)] := by
          rw [List.take_add_one]
          congr 1
          unfold nexts
          rw [List.getElem?_map, List.getElem?_eq_getElem hj', ← hc, List.getD_eq_getElem?_getD, List.getElem?_eq_getElem hj']
          rfl
        rw [e1]
        exact tups_snoc (tups_mono hus t5) (tst_lst (o := .lst (us.map V.ref ++ [.ref u])) hL5 _ _ hu5)
    rintro H4 ⟨s4, us, hL4, hus⟩
    have nl : (nV (canL R k)).length = (nexts R k).length := by unfold nexts; rw [List.length_map, List.length_map]
    rw [nl, List.take_length] at hus
    have sH4 := sH3.trans s4
    have hD4 := s4 _ _ (s3 _ _ hD2)
    have us100 : us.length ≤ 100 := by
      have : us.length = _ := Paired.length hus
      have c1 : (canL R k).length ≤ R.meets.length := canI_len R k R.meets.length
      have c2 := F.ok.ml
      rw [List.length_map] at nl
      omega
    -- all([other in told for other in behind])
    refine ⟨_, rfl, L, rfl, ⟨_, SqL.of hL4⟩, fun M hM => lc_it walk_list (fun j H' => Same H4 H' ∧ H' M = some (.lst ((List.replicate j true).map V.bl)))
      ⟨same_new hM, upd_same⟩ (fun j H' _ e => SqL.of (e.1 _ _ hL4)) ?_ ?_⟩
    · rintro j x H5 H5' hj ⟨s5, hM5⟩ ⟨rfl, hx⟩
      have hj' : j < us.length := by rwa [List.length_map] at hj
      obtain ⟨u, hu'⟩ : ∃ T, us[j]? = some T := ⟨us[j], List.getElem?_eq_getElem hj'⟩
      obtain rfl := ref_at hx hu'
      obtain ⟨e, he, hue⟩ := paired_getL (F := fun t (ns : List Int) => H4 t = some (.tup (ns.map V.int))) hus hu'
      have hem := AO.next hkm (List.mem_of_getElem? he)
      refine ⟨rfl, _, rfl, _, rfl, D, _, rfl, dget_t (Rd.of (s5 _ _ hD4)) (s5 _ _ hue) (v := some (rkV f e)) (by rw [fkv_val, if_pos hem]), _, hM5, ?_, same_upd s5 hM, ?_⟩
      · rw [List.length_map, List.length_replicate]
        exact len_lt (by omega)
      · rw [upd_same]
        exact congrArg (fun z => some (HO.lst z)) (rep_snoc j)
    rintro H5 ⟨s5, hM5⟩
    refine ⟨M, _, rfl, Rd.of hM5, _, rfl, ?_⟩
    rw [all_rep]
    refine iteF ?_
    -- rank == 0 and said(rule, crowd) == word
    have sH5 := sH4.trans s5
    have hD5 := s5 _ _ hD4
    have hL5 := s5 _ _ hL4
    by_cases h0 : f k = 0
    · refine ⟨_, rfl, rfl, _, rfl, ifY (decide_eq_true (by rw [h0]; rfl)) ?_⟩
      refine ⟨_, rfl, _, rfl, r, b, R, k, rfl, hR.mono (tst sH5), F.ok, sH5 _ _ hbk, Fk.len, fun H6 s6 => ?_⟩
      refine ⟨_, rfl, rfl, _, rfl, ?_⟩
      rw [said_word (CR.comes F.ok ((AO.all k).mp hkm)) hn1, hz k hkm h0]
      refine iteF ?_
      refine ⟨_, rfl, _, _, rfl, rfl, _, rfl, ifW (decide_eq_false (by omega)) ?_⟩
      exact ⟨_, _, _, _, _, rfl, sH5.trans s6, s6 _ _ hD5⟩
    · refine ⟨_, rfl, rfl, _, rfl, ifW (decide_eq_false (fun e => h0 (by injection e with e; omega))) ?_⟩
      refine ⟨_, rfl, _, _, rfl, rfl, _, rfl, ifY (decide_eq_true (by omega)) ?_⟩
      refine ⟨_, rfl, L, rfl, ⟨_, SqL.of hL5⟩, fun M2 hM2 => lc_it walk_list (fun j H' => Same H5 H' ∧ H' M2 = some (.lst ((((nexts R k).take j).map fun e => decide (f e < f k)).map V.bl)))
        ⟨same_new hM2, upd_same⟩ (fun j H' _ e => SqL.of (e.1 _ _ hL5)) ?_ ?_⟩
      · rintro j x H6 H6' hj ⟨s6, hM6⟩ ⟨rfl, hx⟩
        have hj' : j < us.length := by rwa [List.length_map] at hj
        obtain ⟨u, hu'⟩ : ∃ T, us[j]? = some T := ⟨us[j], List.getElem?_eq_getElem hj'⟩
        obtain rfl := ref_at hx hu'
        obtain ⟨e, he, hue⟩ := paired_getL (F := fun t (ns : List Int) => H4 t = some (.tup (ns.map V.int))) hus hu'
        have hem := AO.next hkm (List.mem_of_getElem? he)
        refine ⟨rfl, _, rfl, _, rfl, D, _, rfl, dget_t (Rd.of (s6 _ _ hD5)) ((s5.trans s6) _ _ hue) (v := some (rkV f e)) (by rw [fkv_val, if_pos hem]), _, rfl, _, _, rfl, rfl, _, hM6, ?_, same_upd s6 hM2, ?_⟩
        · rw [List.length_map, List.length_map, List.length_take]
          exact len_lt (by omega)
        · rw [upd_same, List.take_add_one, he, List.map_append, List.map_append]
          have : decide ((f e : Int) < (f k : Int)) = decide (f e < f k) := decide_eq_decide.mpr (by omega)
          show some (HO.lst (_ ++ [V.bl (decide ((f e : Int) < (f k : Int)))])) = _
          rw [this]
          rfl
      rintro H6 ⟨s6, hM6⟩
      have ul : (us.map V.ref).length = (nexts R k).length := by rw [List.length_map]; exact Paired.length hus
      rw [ul, List.take_length] at hM6
      refine ⟨M2, _, rfl, Rd.of hM6, _, rfl, ?_⟩
      have : ((nexts R k).map fun e => decide (f e < f k)).any id = true := by
        obtain ⟨e, e1, e2⟩ := hf k hkm (by omega)
        rw [List.any_eq_true]
        exact ⟨_, List.mem_map.mpr ⟨e, e1, rfl⟩, decide_eq_true e2⟩
      rw [this]
      exact iteF ⟨_, _, _, _, _, rfl, sH5.trans s6, s6 _ _ hD5⟩
  · rintro σ H1 ⟨v4, v5, v6, v7, v8, rfl, sH, hD1⟩
    exact q H1 sH
def spLetsErr : Sp := fun vs H Q _ => ∃ (r b p : Addr) (R : Rule) (q : Qn) (cs : List Int), vs = [.ref r, .ref b, .ref p] ∧ RuleAt H r R ∧ QAt H q b ∧ Asked R q cs ∧ PaperAt H p R q cs ∧ ∀ H', Same H H' → Q (.bl true) H'
theorem d_lets_err (Z : BN mg) (A : At K mg "lets_err" s_lets_err ["rule", "question", "thing"]) (D_ask_shape : Def P w K mg base 4 "ask_shape" ["rule", "thing"] [] spAskShape) (D_passed_along : Def P w K mg base 4 "passed_along" ["rule", "crowd", "numbers", "word"] [] spPassed)
    (D_begun : Def P w K mg base 1 "begun" ["rule", "counts"] [] spBegun) (D_ask_ranks : Def P w K mg base 4 "ask_ranks" ["rule", "ranks", "hands"] [] spAskRanks) (D_ask_ways : Def P w K mg base 4 "ask_ways" ["rule", "ranks", "word"] [] spAskWays) (D_truth_word : Def P w K mg base 5 "truth_word" ["question", "counts"] [] spTruthWord) :
    Def P w K mg base 6 "lets_err" ["rule", "question", "thing"] [] spLetsErr := by
  refine A.def sc_lets_err (fun vs H Q E h => ?_) (fun f cdv A outer s H vs Q E hr h => ?_)
  · obtain ⟨r, b, p, R, q, cs, rfl, _⟩ := h
    rfl
  obtain ⟨r, b, p, R, qn, cs, rfl, hR, hb, AS, hP, q⟩ := h
  have hu := hu_of hr
  refine ⟨_, (pss_cons (ps_expr (pe_def D_ask_shape hr rfl (pa_cons (pv 0) (pa_cons (pv 2) pa_nil))))
    (pss_cons (ps_asg (pv 2) (pg_tup0 rfl (pgs_cons (pg_name (i := 3) sc_lets_err.nd rfl (Or.inl rfl)) (pgs_cons (pg_name (i := 4) sc_lets_err.nd rfl (Or.inl rfl)) (pgs_cons (pg_name (i := 5) sc_lets_err.nd rfl (Or.inl rfl)) pgs_nil)))))
    (pss_cons (ps_set (i := 6) sc_lets_err.nd rfl (Or.inl rfl) (pe_ix ix_list0 (pe_def D_passed_along hr rfl (pa_cons (pv 0) (pa_cons (pe_def D_begun hr rfl (pa_cons (pv 0) (pa_cons (pv 3) pa_nil))) (pa_cons (pv 4) (pa_cons pe_str pa_nil))))) (pe_un un_neg pe_int) (fun _ _ => rfl)))
    (pss_cons (ps_expr (pe_def D_ask_ranks hr rfl (pa_cons (pv 0) (pa_cons (pv 5) (pa_cons (pe_callB (cr_sumT rfl) (by rfl) Z.sum (by decide +kernel) (pa_cons (pv 3) pa_nil)) pa_nil)))))
    (pss_cons (ps_if (pt_cmp (pc_dnotin hu (pv 6) (pe_callTy (cr_dictT rfl hr.units) (by rfl) Z.dict (by decide +kernel) (pa_cons (pv 5) pa_nil)))) (pss_one (ps_never)) pss_nil)
    (pss_cons (ps_expr (pe_def D_ask_ways hr rfl (pa_cons (pv 0) (pa_cons (pv 5) (pa_cons (pe_def D_truth_word hr rfl (pa_cons (pv 1) (pa_cons (pv 3) pa_nil))) pa_nil)))))
    (pss_one (ps_ret pe_bl)))))))), ?_⟩
  refine ⟨_, rfl, _, rfl, r, p, R, qn, cs, rfl, hR, AS, hP, fun H1 s1 => ?_⟩
  obtain ⟨a, n, rk, o, ts, rows, f, js, d, hp, ha, hn, h4, h5, h6, h7, h8, AO, h9, h10, h11⟩ := (hP.mono s1).ex
  have F := AS.few
  have Fd := F.comes h5.comes
  have CR : Cr R.n cs.sum d := (beginC_cr AS.ok AS.bg).comes AS.ok h5.comes
  have r35 : rows.length ≤ 35 := Fd.few AO.nd fun k hk => (AO.all k).mp hk
  have hdr : d ∈ rows := (AO.all d).mpr .refl
  refine ⟨_, rfl, p, _, rfl, Rd.of hp, rfl, _, _, rfl, _, _, rfl, _, _, rfl, rfl, ?_⟩
  refine ⟨_, rfl, _, rfl, _, rfl, r, a, R, cs, rfl, hR.mono (tst s1), AS.ok, ha, AS.bg.len, fun H2 c0 s2 _ hc0 => ?_⟩
  have s12 := s1.trans s2
  refine ⟨_, rfl, r, c0, n, "way", R, beginC R cs, d, js, rfl, hR.mono (tst s12), F, hc0, s2 _ _ hn, h4, h5, fun H3 pl xs u s3 hpl hu3 => ?_⟩
  have s23 := s2.trans s3
  refine ⟨_, rfl, pl, _, _, _, rfl, rfl, Rd.of hpl, atI_last _ _, ?_⟩
  refine ⟨_, rfl, _, rfl, _, rfl, a, cs, rfl, s23 _ _ ha, r, rk, cs.sum, R, o, ts, rows, f, rfl, hR.mono (tst (s1.trans s23)), AS.ok, s23 _ _ h6, paired_mono h8 fun t k ⟨b, x, y⟩ => ⟨b, s23 _ _ x, s23 _ _ y⟩, fun k hk => CR.comes AS.ok ((AO.all k).mp hk), AS.bg.sum1, h9, fun H4 s4 => ?_⟩
  have s24 := s23.trans s4
  refine ⟨_, rfl, _, rfl, rk, o, ts, fkv (rkV f) rows, rfl, s24 _ _ h6, h7, rows_pairs (paired_mono h8 fun t k ⟨b, x, y⟩ => ⟨b, s24 _ _ x, s24 _ _ y⟩), by rw [fkv_keys]; exact ck_nodup AO.nd, fun D hD => ?_⟩
  have s5 : Same H4 (upd H4 D (.dT (fkv (rkV f) rows))) := same_new hD
  refine ⟨D, _, rfl, dget_t (Rd.of upd_same) (s5 _ _ (s4 _ _ hu3)) (v := some (rkV f d)) (by rw [fkv_val, if_pos hdr]), _, rfl, iteF ?_⟩
  have s25 := s24.trans s5
  refine ⟨_, rfl, _, rfl, _, rfl, _, rfl, b, a, qn, cs, rfl, AS.dp, AS.qok, AS.len, hb.mono (tst (s1.trans s25)), s25 _ _ ha, fun H6 s6 => ?_⟩
  have s26 := s25.trans s6
  refine ⟨r, rk, qn.truth cs, R, d, o, ts, rows, f, rfl, hR.mono (tst (s1.trans s26)), Fd, s26 _ _ h6, h7, paired_mono h8 fun t k ⟨b, x, y⟩ => ⟨b, s26 _ _ x, s26 _ _ y⟩, AO, h10, h11, fun H7 s7 => ?_⟩
  exact q H7 ((s1.trans s26).trans s7)
end
end PB
namespace PB
open PySem PySem.Spec PyProof.Rows L2
theorem inV_nat (i : Nat) (s : List Nat) : inV (.int (i : Int)) (nV s) = decide (i ∈ s) := by
  by_cases h : i ∈ s
  · rw [decide_eq_true h, in_nat h]
  · rw [decide_eq_false h]
    unfold inV
    rw [List.any_eq_false]
    intro x hx
    obtain ⟨k, hk, rfl⟩ := List.mem_map.mp hx
    show ¬ ((k : Int) == (i : Int)) = true
    intro e
    have := eq_of_beq e
    exact h (by rw [show i = k by omega]; exact hk)
/-! ### while meetings are laid in a list -/
theorem mts_snoc {H : Hp} {ps : List Addr} {ms : List Mt} {T : Addr} {m : Mt} (h : MtsAt H ps ms) (hT : H T = some (.tup (mtV m))) : MtsAt H (ps ++ [T]) (ms ++ [m]) := paired_snoc h hT
structure MI (H0 H : Hp) (l : Addr) (n c : Nat) (ms : List Mt) : Prop where
  same : Same H0 H
  ex : ∃ ps : List Addr, H l = some (.lst (ps.map V.ref)) ∧ MtsAt H ps ms
  inr : ∀ m ∈ ms, m.1 < n ∧ m.2.1 < n ∧ m.2.2.1 < n ∧ m.2.2.2 < n
  len : ms.length ≤ c
theorem MI.mono {H0 H H' : Hp} {l : Addr} {n c c' : Nat} {ms : List Mt} (G : MI H0 H l n c ms) (s : Same H H') (hc : c ≤ c') : MI H0 H' l n c' ms := by
  obtain ⟨ps, h1, h2⟩ := G.ex
  exact ⟨G.same.trans s, ⟨ps, s _ _ h1, paired_mono h2 fun p q z => s _ _ z⟩, G.inr, Nat.le_trans G.len hc⟩
theorem MI.at {H0 H : Hp} {l : Addr} {n c : Nat} {ms : List Mt} (G : MI H0 H l n c ms) (hc : c < 1000) : ∃ xs, H l = some (.lst xs) ∧ xs.length < sizeLine := by
  obtain ⟨ps, h1, h2⟩ := G.ex
  have := G.len
  have := mts_len h2
  exact ⟨_, h1, by rw [List.length_map]; exact len_lt (by omega)⟩
theorem MI.push {H0 H : Hp} {l T : Addr} {n c : Nat} {ms : List Mt} {xs : List V} {m : Mt} (G : MI H0 H l n c ms) (hl : H l = some (.lst xs)) (hT : H T = none) (h0 : H0 l = none) (hm : m.1 < n ∧ m.2.1 < n ∧ m.2.2.1 < n ∧ m.2.2.2 < n) :
    MI H0 (upd (upd H T (.tup (mtV m))) l (.lst (xs ++ [.ref T]))) l n (c + 1) (ms ++ [m]) := by
  obtain ⟨ps, h1, h2⟩ := G.ex
  rw [hl] at h1
  injection h1 with h1
  injection h1 with h1
  subst h1
  have s1 := same_new (o := .tup (mtV m)) hT
  have hl1 := s1 _ _ hl
  have t2 := (tst s1).trans (tst_lst (o := .lst (ps.map V.ref ++ [.ref T])) hl1)
  refine ⟨same_upd (G.same.trans s1) h0, ⟨ps ++ [T], by rw [upd_same, List.map_append]; rfl, mts_snoc (paired_mono h2 fun p q z => t2 _ _ z) (tst_lst (o := .lst (ps.map V.ref ++ [.ref T])) hl1 _ _ upd_same)⟩, fun x hx => ?_, by rw [List.length_append]; have := G.len; show ms.length + 1 ≤ c + 1; omega⟩
  rcases List.mem_append.mp hx with z | z
  · exact G.inr x z
  · rw [List.mem_singleton.mp z]
    exact hm
section
variable {P : Program} {w : World} {K : PySem.W.Frag} {mg : Str → Option Value} {base : Heap}
def startsL (k : Nat) (s : List Nat) (x y : Nat) : List Nat := (List.range k).map fun i => if i ∈ s then x else y
def spStarted : Sp := fun vs H Q _ => ∃ (b : Addr) (k x y : Nat) (s : List Nat), vs = [.int (k : Int), .ref b, .int (x : Int), .int (y : Int)] ∧ H b = some (.tup (nV s)) ∧ k ≤ 100 ∧ ∀ H' p, Same H H' → H' p = some (.tup (nV (startsL k s x y))) → Q (.ref p) H'
theorem d_started (Z : BN mg) (A : At K mg "started" s_started ["sorts", "some", "one", "other"]) : Def P w K mg base 1 "started" ["sorts", "some", "one", "other"] [] spStarted := by
  refine A.def sc_started (fun vs H Q E h => ?_) (fun f cdv A outer s H vs Q E hr h => ?_)
  · obtain ⟨b, k, x, y, s, rfl, _⟩ := h
    rfl
  obtain ⟨b, k, x, y, s, rfl, hb, hk, q⟩ := h
  refine ⟨_, (pss_one (ps_ret (pe_callTy call_tuple0 (by rfl) Z.tuple (by decide +kernel) (pa_cons (pe_lc (own := [("sort", 4)]) (g := (gName 4)) rfl sc_started.nd (pi_range1 (by rfl) Z.range (pa_cons (pv 0) pa_nil)) (blkOk_by (own := [("sort", 4)]) (N := N_started) (sc := defScope s_started) (by decide +kernel)) (fun _ _ _ _ _ => (pg_name (i := 4) sc_started.nd rfl (Or.inl rfl))) (fun _ _ _ _ _ => pts_nil) (fun _ _ _ _ _ => (pe_ifExp (pt_cmpR op_in0 (pv 4) (pv 1) (by first | exact nomark _ | rfl)) (pv 2) (pv 3)))) pa_nil)))), ?_⟩
  refine ⟨_, rfl, (k : Int), rfl, by omega, by omega, fun D hD => lc_it (walk_range (lo := 0)) (fun i H' => Same H H' ∧ H' D = some (.lst (nV ((List.range i).map fun i => if i ∈ s then x else y))))
    ⟨same_new hD, upd_same⟩ (fun _ _ _ _ => trivial) ?_ ?_⟩
  · rintro i v H1 H1' hi ⟨sH, hD1⟩ ⟨rfl, hx⟩
    have hx : v = V.int (i : Int) := by
      rw [hx]
      show V.int (0 + (i : Int)) = _
      rw [Int.zero_add]
    subst hx
    have hi : i < (k : Int).toNat := hi
    refine ⟨rfl, _, rfl, _, rfl, b, _, rfl, .inr (Rd.of (sH _ _ hb)), rfl, flat_nat _, _, rfl, ?_⟩
    have fin : ∀ z, z = (if i ∈ s then x else y) → ∃ acc, H1' D = some (.lst acc) ∧ acc.length < sizeLine ∧ (Same H (upd H1' D (.lst (acc ++ [.int (z : Int)]))) ∧ upd H1' D (.lst (acc ++ [.int (z : Int)])) D = some (.lst (nV ((List.range (i + 1)).map fun i => if i ∈ s then x else y)))) := fun z hz => by
      refine ⟨_, hD1, ?_, same_upd sH hD, ?_⟩
      · rw [List.length_map, List.length_map, List.length_range]
        exact len_lt (by omega)
      · rw [upd_same, List.range_succ, List.map_append, hz]
        exact congrArg (fun z => some (HO.lst z)) (nV_snoc _ _).symm
    show if inV (V.int (i : Int)) (nV s) = true then _ else _
    rw [inV_nat]
    by_cases e : i ∈ s
    · rw [decide_eq_true e]
      exact iteT ⟨_, rfl, fin x (by rw [if_pos e])⟩
    · rw [decide_eq_false e]
      exact iteF ⟨_, rfl, fin y (by rw [if_neg e])⟩
  · rintro H1 ⟨sH, hD1⟩
    refine ⟨D, _, rfl, Rd.of hD1, fun p hp => q _ p (sH.trans (same_new hp)) ?_⟩
    rw [upd_same]
    rfl
/-- what a made rule is -/
def MadeQ (Q : VK) (H : Hp) (k : Nat) : Prop := ∀ H' p R, Same H H' → RuleAt H' p R → R.Ok → R.starts.length = k → 1 ≤ R.meets.length → Q (.ref p) H'
def spMadeLeast : Sp := fun vs H Q _ => ∃ (b : Addr) (n k : Nat) (s : List Nat), vs = [.ref b, .int (n : Int), .int (k : Int)] ∧ H b = some (.tup (nV s)) ∧ 2 ≤ n ∧ n ≤ 3 ∧ 1 ≤ k ∧ k ≤ 2 ∧ MadeQ Q H k
theorem d_made_least (Z : BN mg) (A : At K mg "made_least" s_made_least ["some", "most", "sorts"]) (D_started : Def P w K mg base 1 "started" ["sorts", "some", "one", "other"] [] spStarted) : Def P w K mg base 2 "made_least" ["some", "most", "sorts"] [] spMadeLeast := by
  refine A.def sc_made_least (fun vs H Q E h => ?_) (fun f cdv A outer s H vs Q E hr h => ?_)
  · obtain ⟨b, n, k, s, rfl, _⟩ := h
    rfl
  obtain ⟨b, n, k, s, rfl, hb, n2, n3, k1, k2, q⟩ := h
  refine ⟨_, (pss_cons (ps_set (i := 3) sc_made_least.nd rfl (Or.inl rfl) (pe_lst pa_nil))
    (pss_cons (ps_for PassesOwn.never rfl (pi_range1 (by rfl) Z.range (pa_cons (pe_op op_add (pv 1) pe_int) pa_nil)) (pg_name (i := 4) sc_made_least.nd rfl (Or.inl rfl))
      (pss_one (ps_for PassesOwn.never rfl (pi_range2 (by rfl) Z.range (pa_cons (pv 4) (pa_cons (pe_op op_add (pv 1) pe_int) pa_nil))) (pg_name (i := 5) sc_made_least.nd rfl (Or.inl rfl))
        (pss_one (ps_if (PW.pt (pw_and (pt_cmpR op_ge (pv 4) pe_int (by first | exact nomark _ | rfl)) (pw_and1 (pt_cmpR op_lt (pe_op op_add (pv 4) (pv 5)) (pv 1) (by first | exact nomark _ | rfl))))) (pss_one (ps_expr (pe_bm PySem.F.plainAttrs_list PySem.F.slot_list_append PySem.F.type_list_append mt_append (pv 3) (pa_cons (pe_tup (pa_cons (pv 4) (pa_cons (pv 5) (pa_cons pe_int (pa_cons (pe_op op_add (pv 4) (pv 5)) pa_nil))))) pa_nil)))) (pss_one (ps_if (PW.pt (pw_and (pt_cmpR op_lt (pv 4) (pv 1) (by first | exact nomark _ | rfl)) (pw_and1 (PW.pt (pw_or (pt_cmpR op_eq (pv 5) (pv 1) (by first | exact nomark _ | rfl)) (pw_or1 (pt_cmpR op_ge (pv 4) pe_int (by first | exact nomark _ | rfl)))))))) (pss_one (ps_expr (pe_bm PySem.F.plainAttrs_list PySem.F.slot_list_append PySem.F.type_list_append mt_append (pv 3) (pa_cons (pe_tup (pa_cons (pv 4) (pa_cons (pv 5) (pa_cons (pv 1) (pa_cons (pv 1) pa_nil))))) pa_nil)))) pss_nil)))))))
    (pss_one (ps_ret (pe_tup (pa_cons (pe_op op_add (pv 1) pe_int) (pa_cons (pe_def D_started hr rfl (pa_cons (pv 2) (pa_cons (pv 0) (pa_cons pe_int (pa_cons pe_int pa_nil))))) (pa_cons (pe_callTy call_tuple0 (by rfl) Z.tuple (by decide +kernel) (pa_cons (pv 3) pa_nil)) (pa_cons (pe_op op_cat0 (pe_op op_repT0 (pe_tup (pa_cons pe_bl pa_nil)) (pv 1)) (pe_tup (pa_cons pe_bl pa_nil))) pa_nil))))))))), ?_⟩
  refine ⟨Nat.zero_le _, fun l hl => ?_⟩
  have s0 : Same H (upd H l (.lst [])) := same_new hl
  refine ⟨_, rfl, _, _, rfl, rfl, (n : Int) + 1, rfl, by omega, by omega, for_it (walk_range (lo := 0) (n := ((n : Int) + 1).toNat)) (fun i σ H' => ∃ v4 v5 ms, σ = [some (.ref b), some (.int (n : Int)), some (.int (k : Int)), some (.ref l), v4, v5] ∧ MI H H' l (n + 1) (i * 4) ms ∧ (1 ≤ i → 1 ≤ ms.length))
    ⟨none, none, [], rfl, ⟨s0, ⟨[], upd_same, .nil⟩, fun m hm => (by cases hm), Nat.zero_le _⟩, fun h => absurd h (by decide)⟩ (fun _ _ _ _ _ => trivial) ?_ ?_⟩
  · rintro i x σ H1 H1' hi ⟨v4, v5, ms, rfl, G, hne⟩ ⟨rfl, hx⟩
    have hx : x = V.int (i : Int) := by
      rw [hx]
      show V.int (0 + (i : Int)) = _
      rw [Int.zero_add]
    subst hx
    have hi : i < ((n : Int) + 1).toNat := hi
    have ec : ((n : Int) + 1 - (i : Int)).toNat = n + 1 - i := by omega
    refine ⟨_, rfl, _, rfl, _, _, rfl, rfl, (i : Int), (n : Int) + 1, rfl, by omega, for_it (walk_range (lo := (i : Int)) (n := ((n : Int) + 1 - (i : Int)).toNat)) (fun j σ H' => ∃ v5 ms, σ = [some (.ref b), some (.int (n : Int)), some (.int (k : Int)), some (.ref l), some (.int (i : Int)), v5] ∧ MI H H' l (n + 1) (i * 4 + j) ms ∧ ((1 ≤ i ∨ n + 1 ≤ j) → 1 ≤ ms.length))
      ⟨_, ms, rfl, G, fun h => hne (h.resolve_right (by omega))⟩ (fun _ _ _ _ _ => trivial) ?_ ?_⟩
    · rintro j x σ H2 H2' hj ⟨v5, ms, rfl, G, hne⟩ ⟨rfl, hx⟩
      have hj : j < ((n : Int) + 1 - (i : Int)).toNat := hj
      have hx : x = V.int ((i + j : Nat) : Int) := by
        rw [hx]
        show V.int ((i : Int) + (j : Int)) = _
        rw [Int.natCast_add]
      subst hx
      generalize hbb : i + j = bb
      obtain ⟨xs, hxs, hxl⟩ := G.at (by omega)
      refine ⟨_, rfl, _, _, rfl, rfl, _, rfl, ?_⟩
      by_cases h1 : 1 ≤ i
      · refine ifY (decide_eq_true (by omega)) ?_
        refine ⟨_, rfl, _, rfl, _, _, rfl, rfl, _, rfl, _, _, rfl, rfl, _, rfl, ?_⟩
        by_cases h2 : i + bb < n
        · refine ifY (decide_eq_true (by omega)) ?_
          refine ⟨_, rfl, .inl ⟨rfl, _, SqL.of hxs⟩, _, rfl, _, rfl, _, rfl, _, rfl, _, _, rfl, rfl, (by show 4 ≤ sizeLine; decide), fun T hT => ?_⟩
          refine ⟨l, _, _, rfl, rfl, same_new hT _ _ hxs, hxl, ?_⟩
          have := G.push (m := (i, bb, 0, i + bb)) hxs hT hl ⟨by show i < n + 1; omega, by show bb < n + 1; omega, by show 0 < n + 1; omega, by show i + bb < n + 1; omega⟩
          refine ⟨_, ms ++ [(i, bb, 0, i + bb)], rfl, ?_, fun _ => by rw [List.length_append]; show 1 ≤ ms.length + 1; omega⟩
          have e : mtV (i, bb, 0, i + bb) = [V.int (i : Int), V.int (bb : Int), V.int 0, V.int ((i : Int) + (bb : Int))] := by
            show [V.int (i : Int), V.int (bb : Int), V.int ((0 : Nat) : Int), V.int ((i + bb : Nat) : Int)] = _
            rw [Int.natCast_add]
            rfl
          rw [e] at this
          exact this
        · refine ifW (decide_eq_false (by omega)) ?_
          refine ⟨_, rfl, _, rfl, _, _, rfl, rfl, _, rfl, ?_⟩
          by_cases h3 : i < n
          · refine ifY (decide_eq_true (by omega)) ?_
            refine ⟨_, rfl, _, rfl, rfl, _, rfl, ?_⟩
            have app : ∀ T, H2' T = none → MI H (upd (upd H2' T (.tup [.int (i : Int), .int (bb : Int), .int (n : Int), .int (n : Int)])) l (.lst (xs ++ [.ref T]))) l (n + 1) (i * 4 + (j + 1)) (ms ++ [(i, bb, n, n)]) := fun T hT =>
              G.push (m := (i, bb, n, n)) hxs hT hl ⟨by show i < n + 1; omega, by show bb < n + 1; omega, by show n < n + 1; omega, by show n < n + 1; omega⟩
            refine ite2 (fun _ => ?_) (fun _ => ?_)
            · refine ⟨_, rfl, .inl ⟨rfl, _, SqL.of hxs⟩, _, rfl, _, rfl, _, rfl, _, rfl, (by show 4 ≤ sizeLine; decide), fun T hT => ?_⟩
              exact ⟨l, _, _, rfl, rfl, same_new hT _ _ hxs, hxl, _, _, rfl, app T hT, fun _ => by rw [List.length_append]; show 1 ≤ ms.length + 1; omega⟩
            · refine ⟨_, rfl, _, _, rfl, rfl, _, rfl, ifY (decide_eq_true (by omega)) ?_⟩
              refine ⟨_, rfl, .inl ⟨rfl, _, SqL.of hxs⟩, _, rfl, _, rfl, _, rfl, _, rfl, (by show 4 ≤ sizeLine; decide), fun T hT => ?_⟩
              exact ⟨l, _, _, rfl, rfl, same_new hT _ _ hxs, hxl, _, _, rfl, app T hT, fun _ => by rw [List.length_append]; show 1 ≤ ms.length + 1; omega⟩
          · exact ifW (decide_eq_false (by omega)) ⟨_, ms, rfl, G.mono (Same.refl _) (by omega), fun _ => hne (.inl h1)⟩
      · have hi0 : i = 0 := by omega
        refine ifW (decide_eq_false (by omega)) ?_
        refine ⟨_, rfl, _, rfl, _, _, rfl, rfl, _, rfl, ifY (decide_eq_true (by omega)) ?_⟩
        refine ⟨_, rfl, _, rfl, rfl, _, rfl, ?_⟩
        by_cases h4 : bb = n
        · refine ifY (decide_eq_true (by rw [h4])) ?_
          refine ⟨_, rfl, .inl ⟨rfl, _, SqL.of hxs⟩, _, rfl, _, rfl, _, rfl, _, rfl, (by show 4 ≤ sizeLine; decide), fun T hT => ?_⟩
          exact ⟨l, _, _, rfl, rfl, same_new hT _ _ hxs, hxl, _, _, rfl, G.push (m := (i, bb, n, n)) hxs hT hl ⟨by show i < n + 1; omega, by show bb < n + 1; omega, by show n < n + 1; omega, by show n < n + 1; omega⟩, fun _ => by rw [List.length_append]; show 1 ≤ ms.length + 1; omega⟩
        · refine ifW (decide_eq_false (fun e => h4 (by injection e with e; omega))) ?_
          refine ⟨_, rfl, _, _, rfl, rfl, _, rfl, ifW (decide_eq_false (by omega)) ?_⟩
          exact ⟨_, ms, rfl, G.mono (Same.refl _) (by omega), fun h => hne (h.imp_right fun z => by omega)⟩
    · rintro σ H2 ⟨v5, ms, rfl, G, hne⟩
      refine ⟨_, _, ms, rfl, G.mono (Same.refl _) (by omega), fun _ => hne (by omega)⟩
  rintro σ H1 ⟨v4, v5, ms, rfl, G, hne⟩
  have hms := hne (by omega)
  obtain ⟨ps, hl1, hps⟩ := G.ex
  refine ⟨_, rfl, _, _, rfl, rfl, _, rfl, _, rfl, b, k, 1, 0, s, rfl, G.same _ _ hb, by omega, fun H2 st s2 hst => ?_⟩
  refine ⟨_, rfl, l, _, rfl, Rd.of (s2 _ _ hl1), fun mt hmt => ?_⟩
  have s3 := same_new (o := .tup (ps.map V.ref)) hmt
  refine ⟨(by show 1 ≤ sizeLine; decide), fun t1 ht1 => ?_⟩
  have s4 := s3.trans (same_new (o := .tup [.bl false]) ht1)
  refine ⟨_, rfl, t1, _, [.bl false], rfl, rfl, Rd.of upd_same, fun e => (by cases e), by omega, by omega, by show 1 ≤ 1000; decide, fun t2 ht2 => ?_⟩
  have s5 := s4.trans (same_new (o := .tup (List.replicate (n : Int).toNat [V.bl false]).flatten) ht2)
  have h2' := (same_new (o := .tup (List.replicate (n : Int).toNat [V.bl false]).flatten) ht2)
  refine ⟨(by show 1 ≤ sizeLine; decide), fun t3 ht3 => ?_⟩
  have s6 := s5.trans (same_new (o := .tup [.bl true]) ht3)
  have n12 : n = 2 ∨ n = 3 := by omega
  refine ⟨t2, t3, (List.replicate (n : Int).toNat [V.bl false]).flatten, [.bl true], rfl, rfl, Rd.of (same_new ht3 _ _ upd_same), Rd.of upd_same, ?_, fun z => ?_, fun _ z => ?_, fun _ _ y hy => ?_⟩
  · rcases n12 with e | e <;> subst e <;> (show _ ≤ sizeLine; decide)
  · rcases n12 with e | e <;> subst e <;> cases z
  · cases z
  have s7 := s6.trans (same_new (o := .tup ((List.replicate (n : Int).toNat [V.bl false]).flatten ++ [.bl true])) hy)
  refine ⟨(by show 4 ≤ sizeLine; decide), fun p hp => ?_⟩
  have s8 := s7.trans (same_new (o := .tup [.int ((n : Int) + 1), .ref st, .ref mt, .ref y]) hp)
  have hle : ms.length ≤ 100 := by have := G.len; omega
  refine q _ p ⟨n + 1, startsL k s 1 0, ms, List.replicate n false ++ [true]⟩ ((G.same.trans s2).trans s8) ⟨st, mt, y, ps, upd_same, s8 _ _ hst, ?_, paired_mono hps fun p m z => (s2.trans s8) _ _ z, ?_⟩ ?_ ?_ hms
  · have h1 : upd H2 mt (.tup (ps.map V.ref)) mt = some (.tup (ps.map V.ref)) := upd_same
    exact ((((same_new ht1).trans (same_new ht2)).trans (same_new ht3)).trans (same_new hy)).trans (same_new hp) _ _ h1
  · refine (same_new hp) _ _ ?_
    rw [upd_same]
    rcases n12 with e | e <;> subst e <;> rfl
  · refine ⟨by show 1 ≤ n + 1; omega, by show n + 1 ≤ 4; omega, fun x hx => ?_, ?_, ?_, G.inr, hle, by rw [List.length_append, List.length_replicate]; rfl⟩
    · obtain ⟨i, _, rfl⟩ := List.mem_map.mp hx
      show (if i ∈ s then 1 else 0) < n + 1
      split <;> omega
    · show 1 ≤ (startsL k s 1 0).length
      unfold startsL
      rw [List.length_map, List.length_range]
      exact k1
    · show (startsL k s 1 0).length ≤ 2
      unfold startsL
      rw [List.length_map, List.length_range]
      exact k2
  · show (startsL k s 1 0).length = k
    unfold startsL
    rw [List.length_map, List.length_range]
end
end PB
namespace PB
open PySem PySem.Spec PyProof.Rows L2
theorem startsL_len (k : Nat) (s : List Nat) (x y : Nat) : (startsL k s x y).length = k := by
  unfold startsL
  rw [List.length_map, List.length_range]
section
variable {P : Program} {w : World} {K : PySem.W.Frag} {mg : Str → Option Value} {base : Heap}
def moreL (k : Nat) (s t : List Nat) : List Nat := (List.range k).map fun i => if i ∈ s then 0 else if i ∈ t then 1 else 3
def spMadeMore : Sp := fun vs H Q _ => ∃ (b c : Addr) (k : Nat) (s t : List Nat), vs = [.ref b, .ref c, .int (k : Int)] ∧ H b = some (.tup (nV s)) ∧ H c = some (.tup (nV t)) ∧ 1 ≤ k ∧ k ≤ 2 ∧ MadeQ Q H k
theorem d_made_more (Z : BN mg) (A : At K mg "made_more" s_made_more ["these", "those", "sorts"]) : Def P w K mg base 1 "made_more" ["these", "those", "sorts"] [] spMadeMore := by
  refine A.def sc_made_more (fun vs H Q E h => ?_) (fun f cdv A outer s H vs Q E hr h => ?_)
  · obtain ⟨b, c, k, s, t, rfl, _⟩ := h
    rfl
  obtain ⟨b, c, k, s, t, rfl, hb, hc, k1, k2, q⟩ := h
  refine ⟨_, (pss_cons (ps_set (i := 3) sc_made_more.nd rfl (Or.inl rfl) (pe_callTy call_tuple0 (by rfl) Z.tuple (by decide +kernel) (pa_cons (pe_lc (own := [("sort", 4)]) (g := (gName 4)) rfl sc_made_more.nd (pi_range1 (by rfl) Z.range (pa_cons (pv 2) pa_nil)) (blkOk_by (own := [("sort", 4)]) (N := N_made_more) (sc := defScope s_made_more) (by decide +kernel)) (fun _ _ _ _ _ => (pg_name (i := 4) sc_made_more.nd rfl (Or.inl rfl))) (fun _ _ _ _ _ => pts_nil) (fun _ _ _ _ _ => (pe_ifExp (pt_cmpR op_in0 (pv 4) (pv 0) (by first | exact nomark _ | rfl)) pe_int (pe_ifExp (pt_cmpR op_in0 (pv 4) (pv 1) (by first | exact nomark _ | rfl)) pe_int pe_int)))) pa_nil)))
    (pss_one (ps_ret (pe_tup (pa_cons pe_int (pa_cons (pv 3) (pa_cons (pe_tup (pa_cons (pe_tup (pa_cons pe_int (pa_cons pe_int (pa_cons pe_int (pa_cons pe_int pa_nil))))) (pa_cons (pe_tup (pa_cons pe_int (pa_cons pe_int (pa_cons pe_int (pa_cons pe_int pa_nil))))) (pa_cons (pe_tup (pa_cons pe_int (pa_cons pe_int (pa_cons pe_int (pa_cons pe_int pa_nil))))) (pa_cons (pe_tup (pa_cons pe_int (pa_cons pe_int (pa_cons pe_int (pa_cons pe_int pa_nil))))) pa_nil))))) (pa_cons (pe_tup (pa_cons pe_bl (pa_cons pe_bl (pa_cons pe_bl (pa_cons pe_bl pa_nil))))) pa_nil)))))))), ?_⟩
  refine ⟨_, rfl, (k : Int), rfl, by omega, by omega, fun D hD => lc_it (walk_range (lo := 0)) (fun i H' => Same H H' ∧ H' D = some (.lst (nV (moreL i s t))))
    ⟨same_new hD, upd_same⟩ (fun _ _ _ _ => trivial) ?_ ?_⟩
  · rintro i v H1 H1' hi ⟨sH, hD1⟩ ⟨rfl, hx⟩
    have hx : v = V.int (i : Int) := by
      rw [hx]
      show V.int (0 + (i : Int)) = _
      rw [Int.zero_add]
    subst hx
    have hi : i < (k : Int).toNat := hi
    have fin : ∀ z : Nat, z = (if i ∈ s then 0 else if i ∈ t then 1 else 3) → ∃ acc, H1' D = some (.lst acc) ∧ acc.length < sizeLine ∧ (Same H (upd H1' D (.lst (acc ++ [.int (z : Int)]))) ∧ upd H1' D (.lst (acc ++ [.int (z : Int)])) D = some (.lst (nV (moreL (i + 1) s t)))) := fun z hz => by
      refine ⟨_, hD1, ?_, same_upd sH hD, ?_⟩
      · unfold moreL
        rw [List.length_map, List.length_map, List.length_range]
        exact len_lt (by omega)
      · unfold moreL
        rw [upd_same, List.range_succ, List.map_append, hz]
        exact congrArg (fun z => some (HO.lst z)) (nV_snoc _ _).symm
    refine ⟨rfl, _, rfl, _, rfl, b, _, rfl, .inr (Rd.of (sH _ _ hb)), rfl, flat_nat _, _, rfl, ?_⟩
    show if inV (V.int (i : Int)) (nV s) = true then _ else _
    rw [inV_nat]
    by_cases e : i ∈ s
    · rw [decide_eq_true e]
      exact iteT (fin 0 (by rw [if_pos e]))
    · rw [decide_eq_false e]
      refine iteF ?_
      refine ⟨_, rfl, _, rfl, c, _, rfl, .inr (Rd.of (sH _ _ hc)), rfl, flat_nat _, _, rfl, ?_⟩
      show if inV (V.int (i : Int)) (nV t) = true then _ else _
      rw [inV_nat]
      by_cases e2 : i ∈ t
      · rw [decide_eq_true e2]
        exact iteT (fin 1 (by rw [if_neg e, if_pos e2]))
      · rw [decide_eq_false e2]
        exact iteF (fin 3 (by rw [if_neg e, if_neg e2]))
  · rintro H1 ⟨sH, hD1⟩
    refine ⟨D, _, rfl, Rd.of hD1, fun st hst => ?_⟩
    have s1 := sH.trans (same_new (o := .tup (nV (moreL (k : Int).toNat s t))) hst)
    generalize hH2 : upd H1 st (.tup (nV (moreL (k : Int).toNat s t))) = H2 at s1
    have hst2 : H2 st = some (.tup (nV (moreL k s t))) := by rw [← hH2, upd_same]; rfl
    clear hH2 hst
    refine ⟨_, rfl, (by show 4 ≤ sizeLine; decide), fun m1 h1 => ⟨(by show 4 ≤ sizeLine; decide), fun m2 h2 => ⟨(by show 4 ≤ sizeLine; decide), fun m3 h3 => ⟨(by show 4 ≤ sizeLine; decide), fun m4 h4 => ⟨(by show 4 ≤ sizeLine; decide), fun mt hmt => ⟨(by show 4 ≤ sizeLine; decide), fun y hy => ⟨(by show 4 ≤ sizeLine; decide), fun p hp => ?_⟩⟩⟩⟩⟩⟩⟩
    have t7 := same_new (o := .tup [.int 4, .ref st, .ref mt, .ref y]) hp
    have t6 := (same_new (o := .tup [.bl true, .bl false, .bl true, .bl false]) hy).trans t7
    have t5 := (same_new (o := .tup [.ref m1, .ref m2, .ref m3, .ref m4]) hmt).trans t6
    have t4 := (same_new (o := .tup [.int 2, .int 3, .int 3, .int 3]) h4).trans t5
    have t3 := (same_new (o := .tup [.int 1, .int 2, .int 1, .int 3]) h3).trans t4
    have t2 := (same_new (o := .tup [.int 0, .int 3, .int 0, .int 2]) h2).trans t3
    have t1 := (same_new (o := .tup [.int 0, .int 1, .int 2, .int 3]) h1).trans t2
    refine q _ p ⟨4, moreL k s t, [(0, 1, 2, 3), (0, 3, 0, 2), (1, 2, 1, 3), (2, 3, 3, 3)], [true, false, true, false]⟩ (s1.trans t1) ⟨st, mt, y, [m1, m2, m3, m4], upd_same, t1 _ _ hst2, t6 _ _ upd_same, .cons (t2 _ _ upd_same) (.cons (t3 _ _ upd_same) (.cons (t4 _ _ upd_same) (.cons (t5 _ _ upd_same) .nil))), t7 _ _ upd_same⟩ ?_ ?_ (by show 1 ≤ 4; decide)
    · have hl : (moreL k s t).length = k := by unfold moreL; rw [List.length_map, List.length_range]
      refine ⟨by show 1 ≤ 4; decide, by show 4 ≤ 4; decide, fun x hx => ?_, by show 1 ≤ (moreL k s t).length; omega, by show (moreL k s t).length ≤ 2; omega, by show ∀ m ∈ ([(0, 1, 2, 3), (0, 3, 0, 2), (1, 2, 1, 3), (2, 3, 3, 3)] : List Mt), m.1 < 4 ∧ m.2.1 < 4 ∧ m.2.2.1 < 4 ∧ m.2.2.2 < 4; decide, by show 4 ≤ 100; decide, rfl⟩
      obtain ⟨i, _, rfl⟩ := List.mem_map.mp hx
      show (if i ∈ s then 0 else if i ∈ t then 1 else 3) < 4
      split
      · omega
      · split <;> omega
    · show (moreL k s t).length = k
      unfold moreL
      rw [List.length_map, List.length_range]
def spMadeRest : Sp := fun vs H Q _ => ∃ (b : Addr) (k : Nat) (s : List Nat), vs = [.ref b, .int 2, .int 1, .int (k : Int)] ∧ H b = some (.tup (nV s)) ∧ 1 ≤ k ∧ k ≤ 2 ∧ MadeQ Q H k
abbrev wordsR (i : Nat) : List Nat := (List.range i).map fun r => if r = 1 then 3 else 2
theorem d_made_rest (Z : BN mg) (A : At K mg "made_rest" s_made_rest ["some", "by", "left", "sorts"]) (D_started : Def P w K mg base 1 "started" ["sorts", "some", "one", "other"] [] spStarted) : Def P w K mg base 2 "made_rest" ["some", "by", "left", "sorts"] [] spMadeRest := by
  refine A.def sc_made_rest (fun vs H Q E h => ?_) (fun f cdv A outer s H vs Q E hr h => ?_)
  · obtain ⟨b, k, s, rfl, _⟩ := h
    rfl
  obtain ⟨b, k, s, rfl, hb, k1, k2, q⟩ := h
  refine ⟨_, (pss_cons (ps_setLc (i := 4) (own := [("room", 10)]) (g := (gName 10)) rfl sc_made_rest.nd rfl rfl (sw_true rfl rfl rfl (by decide +kernel)) (pi_range1 (by rfl) Z.range (pa_cons (pv 1) pa_nil)) (blkOk_by (own := [("room", 10)]) (N := N_made_rest) (sc := defScope s_made_rest) (by decide +kernel)) (fun _ _ _ _ _ => (pg_name (i := 10) sc_made_rest.nd rfl (Or.inl rfl))) (fun _ _ _ _ _ => pts_nil) (fun _ _ _ _ _ => (pe_ifExp (pt_cmpR op_eq (pv 10) (pv 2) (by first | exact nomark _ | rfl)) (pe_op op_add (pv 1) pe_int) (pv 1))))
    (pss_cons (ps_set (i := 5) sc_made_rest.nd rfl (Or.inl rfl) (pe_lst pa_nil))
    (pss_cons (ps_for PassesOwn.never rfl (pi_range1 (by rfl) Z.range (pa_cons (pv 1) pa_nil)) (pg_name (i := 6) sc_made_rest.nd rfl (Or.inl rfl))
      (pss_cons (ps_for PassesOwn.never rfl (pi_range2 (by rfl) Z.range (pa_cons (pv 6) (pa_cons (pv 1) pa_nil))) (pg_name (i := 7) sc_made_rest.nd rfl (Or.inl rfl))
        (pss_one (ps_expr (pe_bm PySem.F.plainAttrs_list PySem.F.slot_list_append PySem.F.type_list_append mt_append (pv 5) (pa_cons (pe_tup (pa_cons (pv 6) (pa_cons (pv 7) (pa_cons (pe_op op_mod (pe_op op_add (pv 6) (pv 7)) (pv 1)) (pa_cons (pe_ix ix_list0 (pv 4) (pe_op op_mod (pe_op op_add (pv 6) (pv 7)) (pv 1)) (fun _ _ => rfl)) pa_nil))))) pa_nil)))))
      (pss_cons (ps_set (i := 8) sc_made_rest.nd rfl (Or.inl rfl) (pe_ifExp (pt_cmpR op_eq (pe_ix ix_list0 (pv 4) (pv 6) (fun _ _ => rfl)) (pe_op op_add (pv 1) pe_int) (by first | exact nomark _ | rfl)) (pv 1) (pe_op op_add (pv 1) pe_int)))
      (pss_one (ps_expr (pe_bm PySem.F.plainAttrs_list PySem.F.slot_list_append PySem.F.type_list_append mt_append (pv 5) (pa_cons (pe_tup (pa_cons (pv 6) (pa_cons (pv 8) (pa_cons (pv 6) (pa_cons (pe_ix ix_list0 (pv 4) (pv 6) (fun _ _ => rfl)) pa_nil))))) pa_nil)))))))
    (pss_cons (ps_set (i := 9) sc_made_rest.nd rfl (Or.inl rfl) (pe_op op_cat0 (pe_callTy call_tuple0 (by rfl) Z.tuple (by decide +kernel) (pa_cons (pe_lc (own := [("room", 10)]) (g := (gName 10)) rfl sc_made_rest.nd (pi_range1 (by rfl) Z.range (pa_cons (pv 1) pa_nil)) (blkOk_by (own := [("room", 10)]) (N := N_made_rest) (sc := defScope s_made_rest) (by decide +kernel)) (fun _ _ _ _ _ => (pg_name (i := 10) sc_made_rest.nd rfl (Or.inl rfl))) (fun _ _ _ _ _ => pts_nil) (fun _ _ _ _ _ => (pe_cmpR op_eq (pv 10) (pv 2) (by first | exact nomark _ | rfl)))) pa_nil)) (pe_tup (pa_cons pe_bl (pa_cons pe_bl pa_nil)))))
    (pss_one (ps_ret (pe_tup (pa_cons (pe_op op_add (pv 1) pe_int) (pa_cons (pe_def D_started hr rfl (pa_cons (pv 3) (pa_cons (pv 0) (pa_cons pe_int (pa_cons pe_int pa_nil))))) (pa_cons (pe_callTy call_tuple0 (by rfl) Z.tuple (by decide +kernel) (pa_cons (pv 5) pa_nil)) (pa_cons (pv 9) pa_nil))))))))))), ?_⟩
  refine ⟨_, rfl, 2, rfl, by omega, by omega, fun W hW => lc_it (walk_range (lo := 0)) (fun i H' => Same H H' ∧ H' W = some (.lst (nV (wordsR i))))
    ⟨same_new hW, upd_same⟩ (fun _ _ _ _ => trivial) ?_ ?_⟩
  · rintro i v H1 H1' hi ⟨sH, hD1⟩ ⟨rfl, hx⟩
    have hx : v = V.int (i : Int) := by
      rw [hx]
      show V.int (0 + (i : Int)) = _
      rw [Int.zero_add]
    subst hx
    have hi : i < 2 := hi
    have fin : ∀ z : Int, z = ((if i = 1 then 3 else 2 : Nat) : Int) → ∃ acc, H1' W = some (.lst acc) ∧ acc.length < sizeLine ∧ (Same H (upd H1' W (.lst (acc ++ [.int z]))) ∧ upd H1' W (.lst (acc ++ [.int z])) W = some (.lst (nV (wordsR (i + 1))))) := fun z hz => by
      refine ⟨_, hD1, ?_, same_upd sH hW, ?_⟩
      · rw [List.length_map, List.length_map, List.length_range]
        exact len_lt (by omega)
      · unfold wordsR
        rw [upd_same, List.range_succ, List.map_append, hz]
        exact congrArg (fun z => some (HO.lst z)) (nV_snoc _ _).symm
    refine ⟨rfl, _, rfl, _, rfl, rfl, _, rfl, ?_⟩
    by_cases e : i = 1
    · subst e
      exact ifY (by rfl) ⟨_, rfl, _, _, rfl, rfl, fin _ rfl⟩
    · have : i = 0 := by omega
      subst this
      exact ifW (by rfl) ⟨_, rfl, fin _ rfl⟩
  rintro H1 ⟨sH, hW1⟩
  have hW1 : H1 W = some (.lst (nV (wordsR 2))) := hW1
  refine ⟨Nat.zero_le _, fun l hl => ?_⟩
  have s1 : Same H1 (upd H1 l (.lst [])) := same_new hl
  refine ⟨_, rfl, 2, rfl, by omega, by omega, for_it (walk_range (lo := 0)) (fun i σ H' => ∃ v6 v7 v8 ms, σ = [some (.ref b), some (.int 2), some (.int 1), some (.int (k : Int)), some (.ref W), some (.ref l), v6, v7, v8, none, none] ∧ MI H1 H' l 4 (i * 3) ms ∧ (1 ≤ i → 1 ≤ ms.length))
    ⟨none, none, none, [], rfl, ⟨s1, ⟨[], upd_same, .nil⟩, fun m hm => (by cases hm), Nat.zero_le _⟩, fun h => absurd h (by decide)⟩ (fun _ _ _ _ _ => trivial) ?_ ?_⟩
  · rintro i x σ H2 H2' hi ⟨v6, v7, v8, ms, rfl, G, hne⟩ ⟨rfl, hx⟩
    have hx : x = V.int (i : Int) := by
      rw [hx]
      show V.int (0 + (i : Int)) = _
      rw [Int.zero_add]
    subst hx
    have hi : i < 2 := hi
    refine ⟨_, rfl, _, rfl, (i : Int), 2, rfl, by omega, for_it (walk_range (lo := (i : Int)) (n := ((2 : Int) - (i : Int)).toNat)) (fun j σ H' => ∃ v7 ms, σ = [some (.ref b), some (.int 2), some (.int 1), some (.int (k : Int)), some (.ref W), some (.ref l), some (.int (i : Int)), v7, v8, none, none] ∧ MI H1 H' l 4 (i * 3 + j) ms)
      ⟨_, ms, rfl, G⟩ (fun _ _ _ _ _ => trivial) ?_ ?_⟩
    · rintro j x σ H3 H3' hj ⟨v7, ms, rfl, G⟩ ⟨rfl, hx⟩
      have hj : j < ((2 : Int) - (i : Int)).toNat := hj
      have hx : x = V.int ((i + j : Nat) : Int) := by
        rw [hx]
        show V.int ((i : Int) + (j : Int)) = _
        rw [Int.natCast_add]
      subst hx
      generalize hbb : i + j = bb
      have hW3 := G.same _ _ hW1
      obtain ⟨xs, hxs, hxl⟩ := G.at (by omega)
      have em : ((i : Int) + (bb : Int)) % 2 = (((i + bb) % 2 : Nat) : Int) := by omega
      have hm2 : (i + bb) % 2 < 2 := Nat.mod_lt _ (by decide)
      have hw : (wordsR 2).getD ((i + bb) % 2) 0 < 4 := by
        generalize (i + bb) % 2 = z at hm2
        have : z = 0 ∨ z = 1 := by omega
        rcases this with e | e <;> subst e <;> decide
      have hat : atI (nV (wordsR 2)) (((i : Int) + (bb : Int)) % 2) = some (V.int (((wordsR 2).getD ((i + bb) % 2) 0 : Nat) : Int)) := by
        rw [em]
        exact at_natV (by show _ < 2; exact hm2)
      refine ⟨_, rfl, .inl ⟨rfl, _, SqL.of hxs⟩, _, rfl, _, rfl, _, rfl, _, rfl, _, _, rfl, rfl, _, rfl, _, _, rfl, rfl, (by show (0 : Int) < 2; decide), _, rfl, _, rfl, _, rfl, _, _, rfl, rfl, _, rfl, _, _, rfl, rfl, (by show (0 : Int) < 2; decide), W, _, _, _, rfl, rfl, Rd.of hW3, hat, (by show 4 ≤ sizeLine; decide), fun T hT => ?_⟩
      refine ⟨l, _, _, rfl, rfl, same_new hT _ _ hxs, hxl, ?_⟩
      have := G.push (m := (i, bb, (i + bb) % 2, (wordsR 2).getD ((i + bb) % 2) 0)) hxs hT ((free_of sH hl) |> fun _ => hl) ⟨by show i < 4; omega, by show bb < 4; omega, by show (i + bb) % 2 < 4; omega, hw⟩
      refine ⟨_, ms ++ [(i, bb, (i + bb) % 2, (wordsR 2).getD ((i + bb) % 2) 0)], rfl, ?_⟩
      show MI H1 (upd (upd H3' T (.tup [.int (i : Int), .int (bb : Int), .int (((i : Int) + (bb : Int)) % 2), .int (((wordsR 2).getD ((i + bb) % 2) 0 : Nat) : Int)])) l (.lst (xs ++ [.ref T]))) l 4 (i * 3 + (j + 1)) _
      rw [em]
      exact this
    · rintro σ H3 ⟨v7, ms, rfl, G⟩
      have hW3 := G.same _ _ hW1
      have ec : ((2 : Int) - (i : Int)).toNat = 2 - i := by omega
      rw [ec] at G
      obtain ⟨xs, hxs, hxl⟩ := G.at (by omega)
      have hix : ∀ {H'}, Same H3 H' → atI (nV (wordsR 2)) (i : Int) = some (V.int (((wordsR 2).getD i 0 : Nat) : Int)) := fun {H'} _ => at_natV (by show i < 2; exact hi)
      have hw : (wordsR 2).getD i 0 < 4 := by
        have : i = 0 ∨ i = 1 := by omega
        rcases this with e | e <;> subst e <;> decide
      refine ⟨_, rfl, _, rfl, W, _, _, _, rfl, rfl, Rd.of hW3, at_natV (by show i < 2; exact hi), _, rfl, _, _, rfl, rfl, rfl, _, rfl, ?_⟩
      have app : ∀ (wr T : Nat), wr < 4 → H3 T = none → MI H1 (upd (upd H3 T (.tup [.int (i : Int), .int (wr : Int), .int (i : Int), .int (((wordsR 2).getD i 0 : Nat) : Int)])) l (.lst (xs ++ [.ref T]))) l 4 ((i + 1) * 3) (ms ++ [(i, wr, i, (wordsR 2).getD i 0)]) := fun wr T hwr hT =>
        (G.push (m := (i, wr, i, (wordsR 2).getD i 0)) hxs hT hl ⟨by show i < 4; omega, hwr, by show i < 4; omega, hw⟩).mono (Same.refl _) (by omega)
      refine ite2 (fun _ => ?_) (fun _ => ?_)
      · refine ⟨_, rfl, _, rfl, .inl ⟨rfl, _, SqL.of hxs⟩, _, rfl, _, rfl, _, rfl, _, rfl, _, rfl, W, _, _, _, rfl, rfl, Rd.of hW3, at_natV (by show i < 2; exact hi), (by show 4 ≤ sizeLine; decide), fun T hT => ?_⟩
        exact ⟨l, _, _, rfl, rfl, same_new hT _ _ hxs, hxl, _, _, _, _, rfl, app 2 T (by decide) hT, fun _ => by rw [List.length_append]; show 1 ≤ ms.length + 1; omega⟩
      · refine ⟨_, rfl, _, _, rfl, rfl, _, rfl, .inl ⟨rfl, _, SqL.of hxs⟩, _, rfl, _, rfl, _, rfl, _, rfl, _, rfl, W, _, _, _, rfl, rfl, Rd.of hW3, at_natV (by show i < 2; exact hi), (by show 4 ≤ sizeLine; decide), fun T hT => ?_⟩
        exact ⟨l, _, _, rfl, rfl, same_new hT _ _ hxs, hxl, _, _, _, _, rfl, app 3 T (by decide) hT, fun _ => by rw [List.length_append]; show 1 ≤ ms.length + 1; omega⟩
  rintro σ H2 ⟨v6, v7, v8, ms, rfl, G, hne⟩
  have hms : 1 ≤ ms.length := hne (by decide)
  obtain ⟨ps, hl2, hps⟩ := G.ex
  -- says
  refine ⟨_, rfl, 2, rfl, by omega, by omega, fun D hD => lc_it (walk_range (lo := 0)) (fun i H' => Same H2 H' ∧ H' D = some (.lst (((List.range i).map fun r => decide (r = 1)).map V.bl)))
    ⟨same_new hD, upd_same⟩ (fun _ _ _ _ => trivial) ?_ ?_⟩
  · rintro i v H3 H3' hi ⟨s3, hD3⟩ ⟨rfl, hx⟩
    have hx : v = V.int (i : Int) := by
      rw [hx]
      show V.int (0 + (i : Int)) = _
      rw [Int.zero_add]
    subst hx
    have hi : i < 2 := hi
    refine ⟨rfl, _, rfl, _, rfl, rfl, _, hD3, ?_, same_upd s3 hD, ?_⟩
    · rw [List.length_map, List.length_map, List.length_range]
      exact len_lt (by omega)
    · have : i = 0 ∨ i = 1 := by omega
      rcases this with e | e <;> subst e <;> (rw [upd_same]; rfl)
  rintro H3 ⟨s3, hD3⟩
  refine ⟨D, _, rfl, Rd.of hD3, fun t1 ht1 => ?_⟩
  have s4 := s3.trans (same_new (o := .tup [.bl false, .bl true]) ht1)
  refine ⟨(by show 2 ≤ sizeLine; decide), fun t2 ht2 => ?_⟩
  have s5 := s4.trans (same_new (o := .tup [.bl false, .bl true]) ht2)
  refine ⟨t1, t2, [.bl false, .bl true], [.bl false, .bl true], rfl, rfl, Rd.of (same_new ht2 _ _ upd_same), Rd.of upd_same, (by show 4 ≤ sizeLine; decide), fun z => (by cases z), fun _ z => (by cases z), fun _ _ y hy => ?_⟩
  have s6 := s5.trans (same_new (o := .tup [.bl false, .bl true, .bl false, .bl true]) hy)
  have hyy : upd (upd (upd H3 t1 (.tup [.bl false, .bl true])) t2 (.tup [.bl false, .bl true])) y (.tup [.bl false, .bl true, .bl false, .bl true]) y = some (.tup [.bl false, .bl true, .bl false, .bl true]) := upd_same
  refine ⟨_, rfl, _, _, rfl, rfl, _, rfl, _, rfl, b, k, 1, 0, s, rfl, (sH.trans (G.same.trans s6)) _ _ hb, by omega, fun H4 st s7 hst => ?_⟩
  have s8 := s6.trans s7
  refine ⟨_, rfl, l, _, rfl, Rd.of (s8 _ _ hl2), fun mt hmt => ?_⟩
  have s9 := same_new (o := .tup (ps.map V.ref)) hmt
  refine ⟨_, rfl, (by show 4 ≤ sizeLine; decide), fun p hp => ?_⟩
  have s10 := s9.trans (same_new (o := .tup [.int (2 + 2), .ref st, .ref mt, .ref y]) hp)
  have sa := s8.trans s10
  have hle : ms.length ≤ 100 := by have := G.len; omega
  refine q _ p ⟨4, startsL k s 1 0, ms, [false, true, false, true]⟩ ((sH.trans G.same).trans sa) ⟨st, mt, y, ps, upd_same, s10 _ _ hst, ?_, paired_mono hps fun p m z => sa _ _ z, s10 _ _ (s7 _ _ hyy)⟩ ?_ (startsL_len k s 1 0) hms
  · exact (same_new hp) _ _ upd_same
  · refine ⟨by show 1 ≤ 4; omega, by show 4 ≤ 4; omega, fun x hx => ?_, ?_, ?_, G.inr, hle, rfl⟩
    · obtain ⟨i, _, rfl⟩ := List.mem_map.mp hx
      show (if i ∈ s then 1 else 0) < 4
      split <;> omega
    · show 1 ≤ (startsL k s 1 0).length
      rw [startsL_len]
      exact k1
    · show (startsL k s 1 0).length ≤ 2
      rw [startsL_len]
      exact k2
/-- the questions of made rules -/
def Small (q : Qn) : Prop := (∃ s, q = .least s 2) ∨ (∃ s, q = .least s 3) ∨ (∃ s t, q = .more s t) ∨ ∃ s, q = .rest s 2 1
def spRoomsFor : Sp := fun vs H Q _ => ∃ (b : Addr) (q : Qn), vs = [.ref b] ∧ QAt H q b ∧ Small q ∧ ∀ H' n, Same H H' → n ≤ 40 → Q (.int n) H'
theorem d_rooms_for (Z : BN mg) (A : At K mg "rooms_for" s_rooms_for ["question"]) : Def P w K mg base 1 "rooms_for" ["question"] [] spRoomsFor := by
  refine A.def sc_rooms_for (fun vs H Q E h => ?_) (fun f cdv A outer s H vs Q E hr h => ?_)
  · obtain ⟨b, q, rfl, _⟩ := h
    rfl
  obtain ⟨b, qn, rfl, hb, hs, q⟩ := h
  refine ⟨_, (pss_cons (ps_set (i := 1) sc_rooms_for.nd rfl (Or.inl rfl) (pe_ix ix_tup0 (pv 0) pe_int (fun _ _ => rfl)))
    (pss_cons (ps_if (pt_cmpR op_eq (pv 1) pe_str (by first | exact nomark _ | rfl)) (pss_one ps_never) pss_nil)
    (pss_cons (ps_if (pt_cmpR op_in0 (pv 1) (pe_tup (pa_cons pe_str (pa_cons pe_str pa_nil))) (by first | exact nomark _ | rfl)) (pss_one ps_never) pss_nil)
    (pss_cons (ps_if (pt_cmpR op_eq (pv 1) pe_str (by first | exact nomark _ | rfl)) (pss_one (ps_ret (pe_op op_add (pe_ix ix_tup0 (pv 0) pe_int (fun _ _ => rfl)) pe_int))) pss_nil)
    (pss_one (ps_ret (pe_ifExp (pt_cmpR op_eq (pv 1) pe_str (by first | exact nomark _ | rfl)) pe_int (pe_op op_add (pe_ix ix_tup0 (pv 0) pe_int (fun _ _ => rfl)) pe_int)))))))), ?_⟩
  rcases hs with ⟨s, rfl⟩ | ⟨s, rfl⟩ | ⟨s, t, rfl⟩ | ⟨s, rfl⟩
  · obtain ⟨b1, h1, h2⟩ := hb
    refine ⟨_, rfl, b, _, _, _, rfl, rfl, Rd.of h1, at_nat (j := 0) rfl, ?_⟩
    refine ⟨_, rfl, rfl, _, rfl, ifW (by decide +kernel) ?_⟩
    refine ⟨_, rfl, (by show 2 ≤ sizeLine; decide), fun t ht => ?_⟩
    have s1 := same_new (o := .tup [.str "both", .str "either"]) ht
    refine ⟨t, _, rfl, .inr (Rd.of upd_same), rfl, rfl, _, rfl, ifW (by decide +kernel) ?_⟩
    refine ⟨_, rfl, rfl, _, rfl, ifY (by decide +kernel) ?_⟩
    exact ⟨_, rfl, b, _, _, _, rfl, rfl, Rd.of (s1 _ _ h1), at_nat (j := 2) rfl, _, _, rfl, rfl, q _ _ s1 (by decide)⟩
  · obtain ⟨b1, h1, h2⟩ := hb
    refine ⟨_, rfl, b, _, _, _, rfl, rfl, Rd.of h1, at_nat (j := 0) rfl, ?_⟩
    refine ⟨_, rfl, rfl, _, rfl, ifW (by decide +kernel) ?_⟩
    refine ⟨_, rfl, (by show 2 ≤ sizeLine; decide), fun t ht => ?_⟩
    have s1 := same_new (o := .tup [.str "both", .str "either"]) ht
    refine ⟨t, _, rfl, .inr (Rd.of upd_same), rfl, rfl, _, rfl, ifW (by decide +kernel) ?_⟩
    refine ⟨_, rfl, rfl, _, rfl, ifY (by decide +kernel) ?_⟩
    exact ⟨_, rfl, b, _, _, _, rfl, rfl, Rd.of (s1 _ _ h1), at_nat (j := 2) rfl, _, _, rfl, rfl, q _ _ s1 (by decide)⟩
  · obtain ⟨b1, b2, h1, h2⟩ := hb
    refine ⟨_, rfl, b, _, _, _, rfl, rfl, Rd.of h1, at_nat (j := 0) rfl, ?_⟩
    refine ⟨_, rfl, rfl, _, rfl, ifW (by decide +kernel) ?_⟩
    refine ⟨_, rfl, (by show 2 ≤ sizeLine; decide), fun t ht => ?_⟩
    have s1 := same_new (o := .tup [.str "both", .str "either"]) ht
    refine ⟨t, _, rfl, .inr (Rd.of upd_same), rfl, rfl, _, rfl, ifW (by decide +kernel) ?_⟩
    refine ⟨_, rfl, rfl, _, rfl, ifW (by decide +kernel) ?_⟩
    exact ⟨_, rfl, rfl, _, rfl, ifY (by decide +kernel) (q _ _ s1 (by decide))⟩
  · obtain ⟨b1, h1, h2⟩ := hb
    refine ⟨_, rfl, b, _, _, _, rfl, rfl, Rd.of h1, at_nat (j := 0) rfl, ?_⟩
    refine ⟨_, rfl, rfl, _, rfl, ifW (by decide +kernel) ?_⟩
    refine ⟨_, rfl, (by show 2 ≤ sizeLine; decide), fun t ht => ?_⟩
    have s1 := same_new (o := .tup [.str "both", .str "either"]) ht
    refine ⟨t, _, rfl, .inr (Rd.of upd_same), rfl, rfl, _, rfl, ifW (by decide +kernel) ?_⟩
    refine ⟨_, rfl, rfl, _, rfl, ifW (by decide +kernel) ?_⟩
    refine ⟨_, rfl, rfl, _, rfl, ifW (by decide +kernel) ?_⟩
    exact ⟨_, rfl, b, _, _, _, rfl, rfl, Rd.of (s1 _ _ h1), at_nat (j := 2) rfl, _, _, rfl, rfl, q _ _ s1 (by decide)⟩
def spMade : Sp := fun vs H Q _ => ∃ (b : Addr) (k : Nat) (q : Qn), vs = [.ref b, .int (k : Int)] ∧ QAt H q b ∧ Small q ∧ 1 ≤ k ∧ k ≤ 2 ∧ MadeQ Q H k
theorem MadeQ.mono {Q : VK} {H H' : Hp} {k : Nat} (h : MadeQ Q H k) (s : Same H H') : MadeQ Q H' k := fun H2 p R s2 => h H2 p R (s.trans s2)
theorem d_made_small (Z : BN mg) (A : At K mg "made_small" s_made_small ["question", "sorts"]) (D_made_least : Def P w K mg base 2 "made_least" ["some", "most", "sorts"] [] spMadeLeast) (D_made_more : Def P w K mg base 1 "made_more" ["these", "those", "sorts"] [] spMadeMore)
    (D_made_rest : Def P w K mg base 2 "made_rest" ["some", "by", "left", "sorts"] [] spMadeRest) : Def P w K mg base 3 "made_small" ["question", "sorts"] [] spMade := by
  refine A.def sc_made_small (fun vs H Q E h => ?_) (fun f cdv A outer s H vs Q E hr h => ?_)
  · obtain ⟨b, k, q, rfl, _⟩ := h
    rfl
  obtain ⟨b, k, qn, rfl, hb, hs, k1, k2, q⟩ := h
  refine ⟨_, (pss_cons (ps_set (i := 2) sc_made_small.nd rfl (Or.inl rfl) (pe_ix ix_tup0 (pv 0) pe_int (fun _ _ => rfl)))
    (pss_cons (ps_if (pt_cmpR op_eq (pv 2) pe_str (by first | exact nomark _ | rfl)) (pss_one ps_never) pss_nil)
    (pss_cons (ps_if (pt_cmpR op_in0 (pv 2) (pe_tup (pa_cons pe_str (pa_cons pe_str pa_nil))) (by first | exact nomark _ | rfl)) (pss_one ps_never) pss_nil)
    (pss_cons (ps_if (pt_cmpR op_eq (pv 2) pe_str (by first | exact nomark _ | rfl)) (pss_one (ps_ret (pe_def D_made_least hr rfl (pa_cons (pe_ix ix_tup0 (pv 0) pe_int (fun _ _ => rfl)) (pa_cons (pe_ix ix_tup0 (pv 0) pe_int (fun _ _ => rfl)) (pa_cons (pv 1) pa_nil)))))) pss_nil)
    (pss_cons (ps_if (pt_cmpR op_eq (pv 2) pe_str (by first | exact nomark _ | rfl)) (pss_one (ps_ret (pe_def D_made_more hr rfl (pa_cons (pe_ix ix_tup0 (pv 0) pe_int (fun _ _ => rfl)) (pa_cons (pe_ix ix_tup0 (pv 0) pe_int (fun _ _ => rfl)) (pa_cons (pv 1) pa_nil)))))) pss_nil)
    (pss_one (ps_ret (pe_def D_made_rest hr rfl (pa_cons (pe_ix ix_tup0 (pv 0) pe_int (fun _ _ => rfl)) (pa_cons (pe_ix ix_tup0 (pv 0) pe_int (fun _ _ => rfl)) (pa_cons (pe_ix ix_tup0 (pv 0) pe_int (fun _ _ => rfl)) (pa_cons (pv 1) pa_nil)))))))))))), ?_⟩
  rcases hs with ⟨s, rfl⟩ | ⟨s, rfl⟩ | ⟨s, t, rfl⟩ | ⟨s, rfl⟩
  · obtain ⟨b1, h1, h2⟩ := hb
    refine ⟨_, rfl, b, _, _, _, rfl, rfl, Rd.of h1, at_nat (j := 0) rfl, ?_⟩
    refine ⟨_, rfl, rfl, _, rfl, ifW (by decide +kernel) ?_⟩
    refine ⟨_, rfl, (by show 2 ≤ sizeLine; decide), fun t ht => ?_⟩
    have s1 := same_new (o := .tup [.str "both", .str "either"]) ht
    refine ⟨t, _, rfl, .inr (Rd.of upd_same), rfl, rfl, _, rfl, ifW (by decide +kernel) ?_⟩
    refine ⟨_, rfl, rfl, _, rfl, ifY (by decide +kernel) ?_⟩
    exact ⟨_, rfl, b, _, _, _, rfl, rfl, Rd.of (s1 _ _ h1), at_nat (j := 1) rfl, _, rfl, b, _, _, _, rfl, rfl, Rd.of (s1 _ _ h1), at_nat (j := 2) rfl, _, rfl, b1, 2, k, s, rfl, s1 _ _ h2, by decide, by decide, k1, k2, q.mono s1⟩
  · obtain ⟨b1, h1, h2⟩ := hb
    refine ⟨_, rfl, b, _, _, _, rfl, rfl, Rd.of h1, at_nat (j := 0) rfl, ?_⟩
    refine ⟨_, rfl, rfl, _, rfl, ifW (by decide +kernel) ?_⟩
    refine ⟨_, rfl, (by show 2 ≤ sizeLine; decide), fun t ht => ?_⟩
    have s1 := same_new (o := .tup [.str "both", .str "either"]) ht
    refine ⟨t, _, rfl, .inr (Rd.of upd_same), rfl, rfl, _, rfl, ifW (by decide +kernel) ?_⟩
    refine ⟨_, rfl, rfl, _, rfl, ifY (by decide +kernel) ?_⟩
    exact ⟨_, rfl, b, _, _, _, rfl, rfl, Rd.of (s1 _ _ h1), at_nat (j := 1) rfl, _, rfl, b, _, _, _, rfl, rfl, Rd.of (s1 _ _ h1), at_nat (j := 2) rfl, _, rfl, b1, 3, k, s, rfl, s1 _ _ h2, by decide, by decide, k1, k2, q.mono s1⟩
  · obtain ⟨b1, b2, h1, h2, h3⟩ := hb
    refine ⟨_, rfl, b, _, _, _, rfl, rfl, Rd.of h1, at_nat (j := 0) rfl, ?_⟩
    refine ⟨_, rfl, rfl, _, rfl, ifW (by decide +kernel) ?_⟩
    refine ⟨_, rfl, (by show 2 ≤ sizeLine; decide), fun u ht => ?_⟩
    have s1 := same_new (o := .tup [.str "both", .str "either"]) ht
    refine ⟨u, _, rfl, .inr (Rd.of upd_same), rfl, rfl, _, rfl, ifW (by decide +kernel) ?_⟩
    refine ⟨_, rfl, rfl, _, rfl, ifW (by decide +kernel) ?_⟩
    refine ⟨_, rfl, rfl, _, rfl, ifY (by decide +kernel) ?_⟩
    exact ⟨_, rfl, b, _, _, _, rfl, rfl, Rd.of (s1 _ _ h1), at_nat (j := 1) rfl, _, rfl, b, _, _, _, rfl, rfl, Rd.of (s1 _ _ h1), at_nat (j := 2) rfl, _, rfl, b1, b2, k, s, t, rfl, s1 _ _ h2, s1 _ _ h3, k1, k2, q.mono s1⟩
  · obtain ⟨b1, h1, h2⟩ := hb
    refine ⟨_, rfl, b, _, _, _, rfl, rfl, Rd.of h1, at_nat (j := 0) rfl, ?_⟩
    refine ⟨_, rfl, rfl, _, rfl, ifW (by decide +kernel) ?_⟩
    refine ⟨_, rfl, (by show 2 ≤ sizeLine; decide), fun u ht => ?_⟩
    have s1 := same_new (o := .tup [.str "both", .str "either"]) ht
    refine ⟨u, _, rfl, .inr (Rd.of upd_same), rfl, rfl, _, rfl, ifW (by decide +kernel) ?_⟩
    refine ⟨_, rfl, rfl, _, rfl, ifW (by decide +kernel) ?_⟩
    refine ⟨_, rfl, rfl, _, rfl, ifW (by decide +kernel) ?_⟩
    exact ⟨_, rfl, b, _, _, _, rfl, rfl, Rd.of (s1 _ _ h1), at_nat (j := 1) rfl, _, rfl, b, _, _, _, rfl, rfl, Rd.of (s1 _ _ h1), at_nat (j := 2) rfl, _, rfl, b, _, _, _, rfl, rfl, Rd.of (s1 _ _ h1), at_nat (j := 3) rfl, _, rfl, b1, k, s, rfl, s1 _ _ h2, k1, k2, q.mono s1⟩
theorem d_made (Z : BN mg) (T : GN mg) (A : At K mg "made" s_made ["question", "sorts"]) (D_rooms_for : Def P w K mg base 1 "rooms_for" ["question"] [] spRoomsFor) (D_made_small : Def P w K mg base 3 "made_small" ["question", "sorts"] [] spMade) : Def P w K mg base 4 "made" ["question", "sorts"] [] spMade := by
  refine A.def sc_made (fun vs H Q E h => ?_) (fun f cdv A outer s H vs Q E hr h => ?_)
  · obtain ⟨b, k, q, rfl, _⟩ := h
    rfl
  obtain ⟨b, k, qn, rfl, hb, hs, k1, k2, q⟩ := h
  obtain ⟨tk, g_MOST_ROOMS⟩ := T.rooms
  refine ⟨_, (pss_cons (ps_if (pt_cmpR op_gt (pe_def D_rooms_for hr rfl (pa_cons (pv 0) pa_nil)) (pe_glob (v := .int 40) rfl g_MOST_ROOMS ⟨_, rfl⟩) (by first | exact nomark _ | rfl)) (pss_one (ps_never)) pss_nil)
    (pss_one (ps_ret (pe_def D_made_small hr rfl (pa_cons (pv 0) (pa_cons (pv 1) pa_nil)))))), ?_⟩
  refine ⟨_, rfl, b, qn, rfl, hb, hs, fun H1 n s1 hn => ?_⟩
  refine ⟨_, _, rfl, rfl, _, rfl, ifW (decide_eq_false (by omega)) ?_⟩
  exact ⟨_, rfl, _, rfl, b, k, qn, rfl, hb.mono (tst s1), hs, k1, k2, q.mono s1⟩
end
end PB
namespace PB
open PySem PySem.Spec PyProof.Rows L2
/-! ### the feed: its figures, its start and how often it was asked -/
def FeedAt (H : Hp) (a : Addr) (n : Nat) : Prop := ∃ g s t : Int, H a = some (.lst [.int g, .int s, .int t]) ∧ 0 ≤ g ∧ 0 ≤ s ∧ s ≤ 2000000 ∧ 0 ≤ t ∧ t ≤ n
/-- the feed at a was asked, all else stands -/
structure Fd (H0 H : Hp) (a : Addr) (n : Nat) : Prop where
  keep : ∀ b v, b ≠ a → H0 b = some v → H b = some v
  feed : FeedAt H a n
theorem FeedAt.le {H : Hp} {a : Addr} {n m : Nat} (F : FeedAt H a n) (h : n ≤ m) : FeedAt H a m := by
  obtain ⟨g, s, t, h1, h2, h3, h4, h5, h6⟩ := F
  exact ⟨g, s, t, h1, h2, h3, h4, h5, by omega⟩
theorem FeedAt.same {H H' : Hp} {a : Addr} {n : Nat} (F : FeedAt H a n) (s : Same H H') : FeedAt H' a n := by
  obtain ⟨g, s', t, h1, h2⟩ := F
  exact ⟨g, s', t, s _ _ h1, h2⟩
theorem FeedAt.ne {H : Hp} {a b : Addr} {n : Nat} (F : FeedAt H a n) (h : H b = none) : b ≠ a := fun e => by
  obtain ⟨g, s', t, h1, h2⟩ := F
  rw [e, h1] at h
  cases h
theorem Fd.refl {H : Hp} {a : Addr} {n : Nat} (F : FeedAt H a n) : Fd H H a n := ⟨fun _ _ _ h => h, F⟩
theorem Fd.trans {H0 H1 H2 : Hp} {a : Addr} {n m : Nat} (A : Fd H0 H1 a n) (B : Fd H1 H2 a m) : Fd H0 H2 a m := ⟨fun b v hb h => B.keep b v hb (A.keep b v hb h), B.feed⟩
theorem Fd.le {H0 H : Hp} {a : Addr} {n m : Nat} (F : Fd H0 H a n) (h : n ≤ m) : Fd H0 H a m := ⟨F.keep, F.feed.le h⟩
theorem Fd.same {H0 H H' : Hp} {a : Addr} {n : Nat} (A : Fd H0 H a n) (s : Same H H') : Fd H0 H' a n := ⟨fun b v hb h => s _ _ (A.keep b v hb h), A.feed.same s⟩
theorem Fd.free {H0 H : Hp} {a p : Addr} {n : Nat} (A : Fd H0 H a n) (h : H p = none) : H0 p = none := by
  cases e : H0 p with
  | none => rfl
  | some v =>
    have := A.keep p v (A.feed.ne h) e
    rw [h] at this
    cases this
theorem Fd.upd {H0 H : Hp} {a l : Addr} {n : Nat} {o : HO} (A : Fd H0 H a n) (h : H0 l = none) (hl : l ≠ a) : Fd H0 (upd H l o) a n := by
  refine ⟨fun b v hb q => ?_, ?_⟩
  · rw [upd_ne (ne_of_none q h)]
    exact A.keep b v hb q
  · obtain ⟨g, s, t, h1, h2⟩ := A.feed
    exact ⟨g, s, t, by rw [upd_ne (fun e => hl e.symm)]; exact h1, h2⟩
theorem Fd.tst {H0 H : Hp} {a : Addr} {n m : Nat} (A : Fd H0 H a n) (F : FeedAt H0 a m) : Tst H0 H := fun b xs q => by
  refine A.keep b _ (fun e => ?_) q
  obtain ⟨g, s, t, h1, h2⟩ := F
  rw [e, h1] at q
  cases q
theorem some_grow {i : Nat} {l : List Nat} (h : SomeOk i l) : SomeOk (i + 1) l := by
  have hn : i ∉ l := fun z => absurd (h.lt i z) (Nat.lt_irrefl i)
  unfold SomeOk at h ⊢
  rw [List.range_succ, List.filter_append, ← h, List.filter_cons_of_neg (by rw [decide_eq_false hn]; decide), List.filter_nil, List.append_nil]
theorem some_add {i : Nat} {l : List Nat} (h : SomeOk i l) : SomeOk (i + 1) (l ++ [i]) := by
  have hn : i ∉ l := fun z => absurd (h.lt i z) (Nat.lt_irrefl i)
  unfold SomeOk at h ⊢
  rw [List.range_succ, List.filter_append, show List.filter (fun x => decide (x ∈ l ++ [i])) [i] = [i] from List.filter_cons_of_pos (decide_eq_true (List.mem_append_right _ List.mem_cons_self))]
  congr 1
  conv => lhs; rw [h]
  refine List.filter_congr fun x hx => decide_eq_decide.mpr ⟨fun z => List.mem_append_left _ z, fun z => ?_⟩
  rcases List.mem_append.mp z with y | y
  · exact y
  · rw [List.mem_singleton.mp y] at hx
    exact absurd (List.mem_range.mp hx) (Nat.lt_irrefl i)
theorem some_nil : SomeOk 0 [] := rfl
theorem some_one {k d : Nat} (hd : d < k) (k2 : k ≤ 2) : SomeOk k [d] := by
  unfold SomeOk
  have : k = 1 ∨ k = 2 := by omega
  rcases this with e | e <;> subst e
  · have : d = 0 := by omega
    subst this
    decide
  · have : d = 0 ∨ d = 1 := by omega
    rcases this with e | e <;> subst e <;> decide
section
variable {P : Program} {w : World} {K : PySem.W.Frag} {mg : Str → Option Value} {base : Heap}
def spFeed (K : PySem.W.Frag) : Sp := fun vs H Q _ => ∃ (s : Addr) (k : Nat) (zs : List Int), vs = [.ref s, .int (k : Int)] ∧ SqL K H s (zs.map V.int) ∧ k ≤ 3 ∧ ∀ H' a, Same H H' → H a = none → FeedAt H' a 0 → Q (.ref a) H'
theorem d_l_feed (Z : BN mg) (A : At K mg "_law_feed" s_l_feed ["_law_script", "_law_k"]) : Def P w K mg base 1 "_law_feed" ["_law_script", "_law_k"] [] (spFeed K) := by
  refine A.def sc_l_feed (fun vs H Q E h => ?_) (fun f cdv A outer s H vs Q E hr h => ?_)
  · obtain ⟨s, k, zs, rfl, _⟩ := h
    rfl
  obtain ⟨s, k, zs, rfl, hs, hk, q⟩ := h
  refine ⟨_, (pss_cons (ps_set (i := 2) sc_l_feed.nd rfl (Or.inl rfl) (pe_ifExp (pt_cmpR op_gt (pe_callB call_len_seq (by rfl) Z.len (by decide +kernel) (pa_cons (pv 0) pa_nil)) pe_int (by first | exact nomark _ | rfl)) (pe_ix ix_list (pv 0) (pe_op op_mod (pv 1) (pe_callB call_len_seq (by rfl) Z.len (by decide +kernel) (pa_cons (pv 0) pa_nil))) (fun _ _ => rfl)) pe_int))
    (pss_cons (ps_set (i := 3) sc_l_feed.nd rfl (Or.inl rfl) (pe_ifExp (pt_cmpR op_ge (pe_callB call_abs (by rfl) Z.abs (by decide +kernel) (pa_cons (pv 2) pa_nil)) (pe_op op_pow pe_int pe_int) (by first | exact nomark _ | rfl)) (pe_callB call_abs (by rfl) Z.abs (by decide +kernel) (pa_cons (pv 2) pa_nil)) pe_int))
    (pss_one (ps_ret (pe_lst (pa_cons (pv 3) (pa_cons (pe_op op_add (pe_op op_mod (pv 2) pe_int) (pe_op op_mul pe_int (pv 1))) (pa_cons pe_int pa_nil)))))))), ?_⟩
  have rest : ∀ z : Int, (fun (Q : VK) => Q (.int z) H) = (fun (Q : VK) => Q (.int z) H) := fun _ => rfl
  clear rest
  refine ⟨_, rfl, s, _, rfl, .inl hs, _, _, rfl, rfl, _, rfl, ?_⟩
  have fin : ∀ g z : Int, 0 ≤ g → (∀ a, H a = none → Q (.ref a) (upd H a (.lst [.int g, .int (z % 1000003 + 7919 * (k : Int)), .int 0]))) := fun g z hg a ha => by
    refine q _ a (same_new ha) ha ⟨g, _, 0, upd_same, hg, ?_, ?_, Int.le_refl 0, Int.le_refl 0⟩
    · omega
    · omega
  by_cases hz : zs = []
  · subst hz
    refine ifW (by rfl) ?_
    refine ⟨_, rfl, _, rfl, _, _, rfl, rfl, ⟨by decide, by decide, by decide⟩, _, _, rfl, rfl, _, rfl, ?_⟩
    have ga : (0 : Int) ≤ (if (0 : Int) < 0 then -(0 : Int) else (0 : Int)) := by split <;> omega
    refine ite2 (fun _ => ?_) (fun _ => ?_)
    · exact ⟨_, rfl, _, rfl, _, rfl, _, rfl, _, _, rfl, rfl, (by show (0 : Int) < 1000003; decide), _, rfl, _, _, rfl, rfl, .inl ⟨by decide, by decide⟩, _, _, rfl, rfl, (by show 3 ≤ sizeLine; decide), fun a ha => fin _ (0 : Int) ga a ha⟩
    · exact ⟨_, rfl, _, rfl, _, _, rfl, rfl, (by show (0 : Int) < 1000003; decide), _, rfl, _, _, rfl, rfl, .inl ⟨by decide, by decide⟩, _, _, rfl, rfl, (by show 3 ≤ sizeLine; decide), fun a ha => fin 0 (0 : Int) (by decide) a ha⟩
  · have hl : 0 < zs.length := List.length_pos_iff.mpr hz
    refine ifY (decide_eq_true (by rw [List.length_map]; omega)) ?_
    have em : (k : Int) % (((zs.map V.int).length : Nat) : Int) = ((k % zs.length : Nat) : Int) := by rw [List.length_map]; omega
    have hix : atI (zs.map V.int) ((k : Int) % (((zs.map V.int).length : Nat) : Int)) = some (V.int (zs.getD (k % zs.length) 0)) := by
      rw [em]
      exact at_int (Nat.mod_lt _ hl)
    refine ⟨_, rfl, _, rfl, _, rfl, s, _, rfl, .inl hs, _, _, rfl, rfl, (by show (0 : Int) < _; rw [List.length_map]; omega), s, _, _, _, rfl, rfl, hs, hix, ?_⟩
    generalize zs.getD (k % zs.length) 0 = z
    refine ⟨_, rfl, _, rfl, _, _, rfl, rfl, ⟨by decide, by decide, by decide⟩, _, _, rfl, rfl, _, rfl, ?_⟩
    have ga : (0 : Int) ≤ (if z < 0 then -z else z) := by split <;> omega
    refine ite2 (fun _ => ?_) (fun _ => ?_)
    · exact ⟨_, rfl, _, rfl, _, rfl, _, rfl, _, _, rfl, rfl, (by show (0 : Int) < 1000003; decide), _, rfl, _, _, rfl, rfl, .inl ⟨by decide, by decide⟩, _, _, rfl, rfl, (by show 3 ≤ sizeLine; decide), fun a ha => fin _ z ga a ha⟩
    · exact ⟨_, rfl, _, rfl, _, _, rfl, rfl, (by show (0 : Int) < 1000003; decide), _, rfl, _, _, rfl, rfl, .inl ⟨by decide, by decide⟩, _, _, rfl, rfl, (by show 3 ≤ sizeLine; decide), fun a ha => fin 0 z (by decide) a ha⟩
def spNext : Sp := fun vs H Q _ => ∃ (a : Addr) (m n : Nat), vs = [.ref a, .int (m : Int)] ∧ FeedAt H a n ∧ n ≤ 100000 ∧ 1 ≤ m ∧ m ≤ 1000000 ∧ ∀ (H' : Hp) (d : Nat), Fd H H' a (n + 1) → d < m → Q (.int (d : Int)) H'
theorem d_l_next (Z : BN mg) (A : At K mg "_law_next" s_l_next ["_law_feed_here", "_law_many_here"]) : Def P w K mg base 1 "_law_next" ["_law_feed_here", "_law_many_here"] [] spNext := by
  refine A.def sc_l_next (fun vs H Q E h => ?_) (fun f cdv A outer s H vs Q E hr h => ?_)
  · obtain ⟨a, m, n, rfl, _⟩ := h
    rfl
  obtain ⟨a, m, n, rfl, ⟨g, z, t, hA, hg, hz, hz2, ht, htn⟩, hn, hm, hm2, q⟩ := h
  refine ⟨_, (pss_cons (ps_if (pt_cmpR op_gt (pe_ix ix_list0 (pv 0) pe_int (fun _ _ => rfl)) pe_int (by first | exact nomark _ | rfl)) (pss_cons (ps_set (i := 2) sc_l_next.nd rfl (Or.inl rfl) (pe_op op_mod (pe_ix ix_list0 (pv 0) pe_int (fun _ _ => rfl)) (pv 1)))
      (pss_cons (ps_asg (pe_op op_fdiv (pe_ix ix_list0 (pv 0) pe_int (fun _ _ => rfl)) (pv 1)) (pg_sub (pv 0) pe_int set_list))
      (pss_one (ps_ret (pv 2))))) pss_nil)
    (pss_cons (ps_set (i := 3) sc_l_next.nd rfl (Or.inl rfl) (pe_op op_add (pe_ix ix_list0 (pv 0) pe_int (fun _ _ => rfl)) pe_int))
    (pss_cons (ps_asg (pv 3) (pg_sub (pv 0) pe_int set_list))
    (pss_cons (ps_set (i := 4) sc_l_next.nd rfl (Or.inl rfl) (pe_op op_mod (pe_op op_mul (pe_op op_add (pe_op op_add (pe_ix ix_list0 (pv 0) pe_int (fun _ _ => rfl)) (pe_op op_mul pe_int (pv 3))) pe_int) (pe_op op_add (pe_op op_mul (pv 3) (pv 3)) pe_int)) pe_int))
    (pss_one (ps_ret (pe_op op_mod (pe_op op_fdiv (pe_op op_mod (pe_op op_add (pe_op op_mul (pv 4) (pe_op op_add (pe_op op_mod (pv 4) pe_int) pe_int)) (pv 3)) pe_int) pe_int) (pv 1)))))))), ?_⟩
  have asn : ∀ x : Int, ∃ d : Nat, x % (m : Int) = (d : Int) ∧ d < m := fun x => by
    have h1 := Int.emod_nonneg x (b := (m : Int)) (by omega)
    have h2 := Int.emod_lt_of_pos x (b := (m : Int)) (by omega)
    exact ⟨(x % (m : Int)).toNat, by omega, by omega⟩
  refine ⟨_, rfl, a, _, _, _, rfl, rfl, Rd.of hA, at_nat (j := 0) rfl, _, _, rfl, rfl, _, rfl, ?_⟩
  by_cases h0 : 0 < g
  · refine ifY (decide_eq_true h0) ?_
    obtain ⟨d, e1, e2⟩ := asn g
    refine ⟨_, rfl, a, _, _, _, rfl, rfl, Rd.of hA, at_nat (j := 0) rfl, _, rfl, _, _, rfl, rfl, (by show (0 : Int) < m; omega), ?_⟩
    refine ⟨_, rfl, a, _, _, _, rfl, rfl, Rd.of hA, at_nat (j := 0) rfl, _, rfl, _, _, rfl, rfl, ⟨by omega, by omega⟩, ?_⟩
    refine ⟨_, rfl, a, _, 0, 0, rfl, rfl, hA, rfl, ?_⟩
    refine ⟨_, rfl, ?_⟩
    show Q (.int (g % (m : Int))) _
    rw [e1]
    refine q _ d ⟨fun b v hb h => by rw [upd_ne hb]; exact h, g / (m : Int), z, t, upd_same, Int.ediv_nonneg hg (by omega), hz, hz2, ht, by omega⟩ e2
  · refine ifW (decide_eq_false h0) ?_
    refine ⟨_, rfl, a, _, _, _, rfl, rfl, Rd.of hA, at_nat (j := 2) rfl, _, _, rfl, rfl, ?_⟩
    refine ⟨_, rfl, _, rfl, a, _, 2, 2, rfl, rfl, hA, rfl, ?_⟩
    have hA2 : upd H a (.lst ([V.int g, V.int z, V.int t].set 2 (V.int (t + 1)))) a = some (.lst [V.int g, V.int z, V.int (t + 1)]) := upd_same
    refine ⟨_, rfl, a, _, _, _, rfl, rfl, Rd.of hA2, at_nat (j := 1) rfl, ?_⟩
    refine ⟨_, rfl, _, _, rfl, rfl, .inl ⟨by decide, by decide⟩, _, _, rfl, rfl, _, _, rfl, rfl, ?_⟩
    refine ⟨_, rfl, _, rfl, _, _, rfl, rfl, .inl ⟨by omega, by omega⟩, _, _, rfl, rfl, _, _, rfl, rfl, .inl ⟨by omega, by omega⟩, _, _, rfl, rfl, (by show (0 : Int) < 998244353; decide), ?_⟩
    dsimp only
    generalize (z + 41 * (t + 1) + 3) * ((t + 1) * (t + 1) + 69621) = big
    have b1 := Int.emod_nonneg big (b := 998244353) (by decide)
    have b2 := Int.emod_lt_of_pos big (b := 998244353) (by decide)
    refine ⟨_, rfl, _, rfl, _, _, rfl, rfl, (by show (0 : Int) < 65519; decide), _, _, rfl, rfl, _, _, rfl, rfl, .inl ⟨by omega, by omega⟩, _, rfl, _, _, rfl, rfl, _, _, rfl, rfl, (by show (0 : Int) < 2147483629; decide), _, _, rfl, rfl, ⟨by decide, by decide⟩, _, rfl, _, _, rfl, rfl, (by show (0 : Int) < m; omega), ?_⟩
    dsimp only
    generalize (big % 998244353 * (big % 998244353 % 65519 + 40692) + (t + 1)) % 2147483629 / 13 = y
    obtain ⟨d, e1, e2⟩ := asn y
    rw [e1]
    exact q _ d ⟨fun b v hb h => by rw [upd_ne hb]; exact h, g, z, t + 1, upd_same, hg, hz, hz2, by omega, by omega⟩ e2
def spOne : Sp := fun vs H Q _ => ∃ (a l : Addr) (n : Nat) (xs : List V), vs = [.ref a, .ref l] ∧ FeedAt H a n ∧ n ≤ 100000 ∧ H l = some (.lst xs) ∧ l ≠ a ∧ 1 ≤ xs.length ∧ xs.length ≤ 1000 ∧ ∀ (H' : Hp) (d : Nat) (v : V), Fd H H' a (n + 1) → xs[d]? = some v → Q v H'
theorem d_l_one (Z : BN mg) (A : At K mg "_law_one" s_l_one ["_law_feed_here", "_law_some_here"]) (D_l_next : Def P w K mg base 1 "_law_next" ["_law_feed_here", "_law_many_here"] [] spNext) : Def P w K mg base 2 "_law_one" ["_law_feed_here", "_law_some_here"] [] spOne := by
  refine A.def sc_l_one (fun vs H Q E h => ?_) (fun f cdv A outer s H vs Q E hr h => ?_)
  · obtain ⟨a, l, n, xs, rfl, _⟩ := h
    rfl
  obtain ⟨a, l, n, xs, rfl, hF, hn, hl, hla, h1, h2, q⟩ := h
  refine ⟨_, (pss_one (ps_ret (pe_ix ix_list0 (pv 1) (pe_def D_l_next hr rfl (pa_cons (pv 0) (pa_cons (pe_callB call_len0 (by rfl) Z.len (by decide +kernel) (pa_cons (pv 1) pa_nil)) pa_nil))) (fun _ _ => rfl)))), ?_⟩
  refine ⟨_, rfl, _, rfl, _, rfl, l, _, rfl, .inl (Rd.of hl), a, xs.length, n, rfl, hF, hn, h1, by omega, fun H' d F hd => ?_⟩
  have hx : xs[d]? = some xs[d] := List.getElem?_eq_getElem hd
  exact ⟨l, _, _, _, rfl, rfl, Rd.of (F.keep _ _ hla hl), at_nat hx, q H' d _ F hx⟩
def spSome : Sp := fun vs H Q _ => ∃ (a : Addr) (k n : Nat), vs = [.ref a, .int (k : Int), .int 1] ∧ FeedAt H a n ∧ n ≤ 50000 ∧ 1 ≤ k ∧ k ≤ 2 ∧ ∀ (H' : Hp) (p : Addr) (s : List Nat), Fd H H' a (n + 3) → H' p = some (.tup (nV s)) → SomeOk k s → Q (.ref p) H'
theorem d_l_some (Z : BN mg) (A : At K mg "_law_some" s_l_some ["_law_feed_here", "_law_sorts", "_law_least"]) (D_l_next : Def P w K mg base 1 "_law_next" ["_law_feed_here", "_law_many_here"] [] spNext) : Def P w K mg base 2 "_law_some" ["_law_feed_here", "_law_sorts", "_law_least"] [] spSome := by
  refine A.def sc_l_some (fun vs H Q E h => ?_) (fun f cdv A outer s H vs Q E hr h => ?_)
  · obtain ⟨a, k, n, rfl, _⟩ := h
    rfl
  obtain ⟨a, k, n, rfl, hF, hn, k1, k2, q⟩ := h
  refine ⟨_, (pss_cons (ps_setLc (i := 3) (own := [("_law_sort", 4)]) (g := (gName 4)) rfl sc_l_some.nd rfl rfl (sw_true rfl rfl rfl (by decide +kernel)) (pi_range1 (by rfl) Z.range (pa_cons (pv 1) pa_nil)) (blkOk_by (own := [("_law_sort", 4)]) (N := N_l_some) (sc := defScope s_l_some) (by decide +kernel)) (fun _ _ _ _ _ => (pg_name (i := 4) sc_l_some.nd rfl (Or.inl rfl))) (fun _ _ _ _ _ => pts_one (pt_cmpR op_eq (pe_def D_l_next hr rfl (pa_cons (pv 0) (pa_cons pe_int pa_nil))) pe_int (by first | exact nomark _ | rfl))) (fun _ _ _ _ _ => (pv 4)))
    (pss_one (ps_ret (pe_ifExp (pt_cmpR op_ge (pe_callB call_len0 (by rfl) Z.len (by decide +kernel) (pa_cons (pv 3) pa_nil)) (pv 2) (by first | exact nomark _ | rfl)) (pe_callTy call_tuple0 (by rfl) Z.tuple (by decide +kernel) (pa_cons (pv 3) pa_nil)) (pe_tup (pa_cons (pe_def D_l_next hr rfl (pa_cons (pv 0) (pa_cons (pv 1) pa_nil))) pa_nil)))))), ?_⟩
  refine ⟨_, rfl, (k : Int), rfl, by omega, by omega, fun D hD => lc_it (walk_range (lo := 0)) (fun i H' => Fd H H' a (n + i) ∧ ∃ l, H' D = some (.lst (nV l)) ∧ SomeOk i l)
    ⟨(Fd.refl hF).same (same_new hD), [], upd_same, some_nil⟩ (fun _ _ _ _ => trivial) ?_ ?_⟩
  · rintro i v H1 H1' hi ⟨F1, l, hD1, hs⟩ ⟨rfl, hx⟩
    have hx : v = V.int (i : Int) := by
      rw [hx]
      show V.int (0 + (i : Int)) = _
      rw [Int.zero_add]
    subst hx
    have hi : i < (k : Int).toNat := hi
    have nDa := hF.ne hD
    refine ⟨rfl, _, rfl, a, 2, n + i, rfl, F1.feed, by omega, by decide, by decide, fun H2 d F2 hd => ?_⟩
    have F12 := F1.trans F2
    have hD2 := F2.keep _ _ nDa hD1
    have ll := hs.len
    refine ⟨rfl, _, rfl, ite2 (fun _ => ?_) (fun _ => ?_)⟩
    · refine ⟨_, rfl, _, hD2, by rw [List.length_map]; exact len_lt (by omega), F12.upd hD nDa, l ++ [i], by rw [upd_same, nV_snoc], some_add hs⟩
    · exact ⟨F12, l, hD2, some_grow hs⟩
  · rintro H1 ⟨F1, l, hD1, hs⟩
    have nDa := hF.ne hD
    have ek : (k : Int).toNat = k := by omega
    rw [ek] at F1 hs
    refine ⟨_, rfl, D, _, rfl, .inl (Rd.of hD1), _, rfl, _, _, rfl, rfl, _, rfl, ?_⟩
    refine ite2 (fun hge => ?_) (fun _ => ?_)
    · refine ⟨_, rfl, D, _, rfl, Rd.of hD1, fun p hp => ?_⟩
      exact q _ p l ((F1.same (same_new hp)).le (by omega)) upd_same hs
    · refine ⟨_, rfl, _, rfl, a, k, n + k, rfl, F1.feed, by omega, k1, by omega, fun H2 d F2 hd => ?_⟩
      refine ⟨(by show 1 ≤ sizeLine; decide), fun p hp => ?_⟩
      exact q _ p [d] (((F1.trans F2).same (same_new hp)).le (by omega)) upd_same (some_one hd k2)
end
end PB
namespace PB
open PySem PySem.Spec PyProof.Rows L2
section
variable {P : Program} {w : World} {K : PySem.W.Frag} {mg : Str → Option Value} {base : Heap}
def spPlain : Sp := fun vs H Q _ => ∃ (a : Addr) (k n : Nat), vs = [.ref a, .int (k : Int)] ∧ FeedAt H a n ∧ n ≤ 20000 ∧ 1 ≤ k ∧ k ≤ 2 ∧ ∀ (H' : Hp) (p : Addr) (q : Qn), Fd H H' a (n + 10) → QAt H' q p → q.Ok k → q.dp = 0 → Q (.ref p) H'
theorem d_l_plain (Z : BN mg) (A : At K mg "_law_plain" s_l_plain ["_law_feed_here", "_law_sorts"]) (D_l_next : Def P w K mg base 1 "_law_next" ["_law_feed_here", "_law_many_here"] [] spNext) (D_l_one : Def P w K mg base 2 "_law_one" ["_law_feed_here", "_law_some_here"] [] spOne)
    (D_l_some : Def P w K mg base 2 "_law_some" ["_law_feed_here", "_law_sorts", "_law_least"] [] spSome) : Def P w K mg base 3 "_law_plain" ["_law_feed_here", "_law_sorts"] [] spPlain := by
  refine A.def sc_l_plain (fun vs H Q E h => ?_) (fun f cdv A outer s H vs Q E hr h => ?_)
  · obtain ⟨a, k, n, rfl, _⟩ := h
    rfl
  obtain ⟨a, k, n, rfl, hF, hn, k1, k2, q⟩ := h
  refine ⟨_, (pss_cons (ps_set (i := 2) sc_l_plain.nd rfl (Or.inl rfl) (pe_def D_l_next hr rfl (pa_cons (pv 0) (pa_cons pe_int pa_nil))))
    (pss_cons (ps_if (pt_cmpR op_eq (pv 2) pe_int (by first | exact nomark _ | rfl)) (pss_one (ps_ret (pe_tup (pa_cons pe_str (pa_cons (pe_def D_l_some hr rfl (pa_cons (pv 0) (pa_cons (pv 1) (pa_cons pe_int pa_nil)))) (pa_cons (pe_op op_add pe_int (pe_def D_l_next hr rfl (pa_cons (pv 0) (pa_cons (pe_def D_l_one hr rfl (pa_cons (pv 0) (pa_cons (pe_lst (pa_cons pe_int (pa_cons pe_int pa_nil))) pa_nil))) pa_nil)))) pa_nil)))))) pss_nil)
    (pss_cons (ps_if (pt_cmpR op_eq (pv 2) pe_int (by first | exact nomark _ | rfl)) (pss_cons (ps_set (i := 3) sc_l_plain.nd rfl (Or.inr rfl) (pe_lc (own := [("_law_sort", 6)]) (g := (gName 6)) rfl sc_l_plain.nd (pi_range1 (by rfl) Z.range (pa_cons (pv 1) pa_nil)) (blkOk_by (own := [("_law_sort", 6)]) (N := N_l_plain) (sc := defScope s_l_plain) (by decide +kernel)) (fun _ _ _ _ _ => (pg_name (i := 6) sc_l_plain.nd rfl (Or.inl rfl))) (fun _ _ _ _ _ => pts_nil) (fun _ _ _ _ _ => (pe_def D_l_next hr rfl (pa_cons (pv 0) (pa_cons pe_int pa_nil))))))
      (pss_cons (ps_set (i := 4) sc_l_plain.nd rfl (Or.inl rfl) (pe_callTy call_tuple0 (by rfl) Z.tuple (by decide +kernel) (pa_cons (pe_lc (own := [("_law_sort", 6)]) (g := (gName 6)) rfl sc_l_plain.nd (pi_range1 (by rfl) Z.range (pa_cons (pv 1) pa_nil)) (blkOk_by (own := [("_law_sort", 6)]) (N := N_l_plain) (sc := defScope s_l_plain) (by decide +kernel)) (fun _ _ _ _ _ => (pg_name (i := 6) sc_l_plain.nd rfl (Or.inl rfl))) (fun _ _ _ _ _ => pts_one (pt_cmpR op_eq (pe_ix ix_list0 (pv 3) (pv 6) (fun _ _ => rfl)) pe_int (by first | exact nomark _ | rfl))) (fun _ _ _ _ _ => (pv 6))) pa_nil)))
      (pss_one (ps_ret (pe_tup (pa_cons pe_str (pa_cons (pv 4) (pa_cons (pe_callTy call_tuple0 (by rfl) Z.tuple (by decide +kernel) (pa_cons (pe_lc (own := [("_law_sort", 6)]) (g := (gName 6)) rfl sc_l_plain.nd (pi_range1 (by rfl) Z.range (pa_cons (pv 1) pa_nil)) (blkOk_by (own := [("_law_sort", 6)]) (N := N_l_plain) (sc := defScope s_l_plain) (by decide +kernel)) (fun _ _ _ _ _ => (pg_name (i := 6) sc_l_plain.nd rfl (Or.inl rfl))) (fun _ _ _ _ _ => pts_one (pt_cmpR op_eq (pe_ix ix_list0 (pv 3) (pv 6) (fun _ _ => rfl)) pe_int (by first | exact nomark _ | rfl))) (fun _ _ _ _ _ => (pv 6))) pa_nil)) pa_nil)))))))) pss_nil)
    (pss_cons (ps_set (i := 5) sc_l_plain.nd rfl (Or.inl rfl) (pe_op op_add pe_int (pe_def D_l_next hr rfl (pa_cons (pv 0) (pa_cons (pe_def D_l_one hr rfl (pa_cons (pv 0) (pa_cons (pe_lst (pa_cons pe_int (pa_cons pe_int pa_nil))) pa_nil))) pa_nil)))))
    (pss_one (ps_ret (pe_tup (pa_cons pe_str (pa_cons (pe_def D_l_some hr rfl (pa_cons (pv 0) (pa_cons (pv 1) (pa_cons pe_int pa_nil)))) (pa_cons (pv 5) (pa_cons (pe_def D_l_next hr rfl (pa_cons (pv 0) (pa_cons (pv 5) pa_nil))) pa_nil))))))))))), ?_⟩
  refine ⟨_, rfl, a, 3, n, rfl, hF, by omega, by decide, by decide, fun H1 d F1 hd => ?_⟩
  refine ⟨_, rfl, rfl, _, rfl, ite2 (fun _ => ?_) (fun _ => ?_)⟩
  · -- least
    refine ⟨_, rfl, _, rfl, a, k, n + 1, rfl, F1.feed, by omega, k1, k2, fun H2 b s F2 hb hs => ?_⟩
    refine ⟨_, rfl, _, rfl, (by show 2 ≤ sizeLine; decide), fun l hl => ?_⟩
    have F3 := F2.same (same_new (o := .lst [.int 3, .int 9]) hl)
    refine ⟨a, l, n + 1 + 3, [.int 3, .int 9], rfl, F3.feed, by omega, upd_same, F2.feed.ne hl, by decide, by decide, fun H4 j v F4 hv => ?_⟩
    obtain ⟨m, e, m1, m9⟩ : ∃ m : Nat, v = .int (m : Int) ∧ 1 ≤ m ∧ m ≤ 9 := by
      match j, hv with
      | 0, hv => exact ⟨3, (Option.some.inj hv).symm, by decide, by decide⟩
      | 1, hv => exact ⟨9, (Option.some.inj hv).symm, by decide, by decide⟩
      | j + 2, hv => exact absurd hv (by simp)
    subst e
    refine ⟨a, m, n + 1 + 3 + 1, rfl, F4.feed, by omega, m1, by omega, fun H5 y F5 hy => ?_⟩
    refine ⟨_, _, rfl, rfl, (by show 3 ≤ sizeLine; decide), fun p hp => ?_⟩
    have s6 := same_new (o := .tup [.str "least", .ref b, .int (1 + (y : Int))]) hp
    have F25 := (F3.trans F4).trans F5
    have F35 := (Fd.refl F3.feed).trans (F4.trans F5)
    have t : Tst H2 H5 := (tst (same_new (o := .lst [.int 3, .int 9]) hl)).trans (F35.tst F3.feed)
    exact q _ p (.least s (1 + (y : Int))) (((F1.trans F25).same s6).le (by omega)) ⟨b, upd_same, s6 _ _ (t _ _ hb)⟩ hs rfl
  refine ⟨_, rfl, rfl, _, rfl, ite2 (fun _ => ?_) (fun _ => ?_)⟩
  · -- more
    refine ⟨_, rfl, (k : Int), rfl, by omega, by omega, fun D hD => lc_it (walk_range (lo := 0)) (fun i H' => Fd H1 H' a (n + 1 + i) ∧ ∃ l : List Nat, H' D = some (.lst (nV l)) ∧ l.length = i)
      ⟨(Fd.refl F1.feed).same (same_new hD), [], upd_same, rfl⟩ (fun _ _ _ _ => trivial) ?_ ?_⟩
    · rintro i v H2 H2' hi ⟨F2, l, hD2, hl⟩ ⟨rfl, hx⟩
      have hi : i < (k : Int).toNat := hi
      have nDa := F1.feed.ne hD
      refine ⟨rfl, _, rfl, a, 3, n + 1 + i, rfl, F2.feed, by omega, by decide, by decide, fun H3 d F3 hd => ?_⟩
      refine ⟨_, F3.keep _ _ nDa hD2, by rw [List.length_map]; exact len_lt (by omega), (F2.trans F3).upd hD nDa, l ++ [d], by rw [upd_same, nV_snoc], by rw [List.length_append, hl]; rfl⟩
    rintro H2 ⟨F2, sides, hD2, hl⟩
    have ek : (k : Int).toNat = k := by omega
    rw [ek] at F2 hl
    have nDa := F1.feed.ne hD
    refine ⟨_, rfl, (k : Int), rfl, by omega, by omega, fun D1 hD1 => lc_it (walk_range (lo := 0)) (fun i H' => Same H2 H' ∧ ∃ l, H' D1 = some (.lst (nV l)) ∧ SomeOk i l)
      ⟨same_new hD1, [], upd_same, some_nil⟩ (fun _ _ _ _ => trivial) ?_ ?_⟩
    · rintro i v H3 H3' hi ⟨s3, l, hl1, hs⟩ ⟨rfl, hx⟩
      have hx : v = V.int (i : Int) := by
        rw [hx]
        show V.int (0 + (i : Int)) = _
        rw [Int.zero_add]
      subst hx
      have hi : i < (k : Int).toNat := hi
      have ll := hs.len
      refine ⟨rfl, _, rfl, _, rfl, D, _, _, _, rfl, rfl, Rd.of (s3 _ _ hD2), at_natV (by omega), rfl, _, rfl, ite2 (fun _ => ?_) (fun _ => ?_)⟩
      · exact ⟨_, rfl, _, hl1, by rw [List.length_map]; exact len_lt (by omega), same_upd s3 hD1, l ++ [i], by rw [upd_same, nV_snoc], some_add hs⟩
      · exact ⟨s3, l, hl1, some_grow hs⟩
    rintro H3 ⟨s3, l1, hl1, hs1⟩
    rw [ek] at hs1
    refine ⟨D1, _, rfl, Rd.of hl1, fun b hb => ?_⟩
    have s4 := s3.trans (same_new (o := .tup (nV l1)) hb)
    generalize hH4 : upd H3 b (.tup (nV l1)) = H4 at s4
    have hb4 : H4 b = some (.tup (nV l1)) := by rw [← hH4, upd_same]
    clear hH4 hb
    refine ⟨_, rfl, _, rfl, (k : Int), rfl, by omega, by omega, fun D2 hD2' => lc_it (walk_range (lo := 0)) (fun i H' => Same H4 H' ∧ ∃ l, H' D2 = some (.lst (nV l)) ∧ SomeOk i l)
      ⟨same_new hD2', [], upd_same, some_nil⟩ (fun _ _ _ _ => trivial) ?_ ?_⟩
    · rintro i v H5 H5' hi ⟨s5, l, hl2, hs⟩ ⟨rfl, hx⟩
      have hx : v = V.int (i : Int) := by
        rw [hx]
        show V.int (0 + (i : Int)) = _
        rw [Int.zero_add]
      subst hx
      have hi : i < (k : Int).toNat := hi
      have ll := hs.len
      refine ⟨rfl, _, rfl, _, rfl, D, _, _, _, rfl, rfl, Rd.of ((s4.trans s5) _ _ hD2), at_natV (by omega), rfl, _, rfl, ite2 (fun _ => ?_) (fun _ => ?_)⟩
      · exact ⟨_, rfl, _, hl2, by rw [List.length_map]; exact len_lt (by omega), same_upd s5 hD2', l ++ [i], by rw [upd_same, nV_snoc], some_add hs⟩
      · exact ⟨s5, l, hl2, some_grow hs⟩
    rintro H5 ⟨s5, l2, hl2, hs2⟩
    rw [ek] at hs2
    refine ⟨D2, _, rfl, Rd.of hl2, fun c hc => ?_⟩
    have s6 := same_new (o := .tup (nV l2)) hc
    refine ⟨(by show 3 ≤ sizeLine; decide), fun p hp => ?_⟩
    have s7 := same_new (o := .tup [.str "more", .ref b, .ref c]) hp
    exact q _ p (.more l1 l2) (((F1.trans F2).same (((s4.trans s5).trans s6).trans s7)).le (by omega)) ⟨b, c, upd_same, s7 _ _ (s6 _ _ (s5 _ _ hb4)), s7 _ _ upd_same⟩ ⟨hs1, hs2⟩ rfl
  · -- rest
    refine ⟨_, rfl, _, rfl, (by show 2 ≤ sizeLine; decide), fun l hl => ?_⟩
    have F2 := (Fd.refl F1.feed).same (same_new (o := .lst [.int 2, .int 8]) hl)
    refine ⟨a, l, n + 1, [.int 2, .int 8], rfl, F2.feed, by omega, upd_same, F1.feed.ne hl, by decide, by decide, fun H4 j v F4 hv => ?_⟩
    obtain ⟨m, e, m1, m9⟩ : ∃ m : Nat, v = .int (m : Int) ∧ 1 ≤ m ∧ m ≤ 9 := by
      match j, hv with
      | 0, hv => exact ⟨2, (Option.some.inj hv).symm, by decide, by decide⟩
      | 1, hv => exact ⟨8, (Option.some.inj hv).symm, by decide, by decide⟩
      | j + 2, hv => exact absurd hv (by simp)
    subst e
    refine ⟨a, m, n + 1 + 1, rfl, F4.feed, by omega, m1, by omega, fun H5 y F5 hy => ?_⟩
    refine ⟨_, _, rfl, rfl, ?_⟩
    have F15 := (F2.trans F4).trans F5
    refine ⟨_, rfl, _, rfl, a, k, n + 1 + 1 + 1, rfl, F5.feed, by omega, k1, k2, fun H6 b s F6 hb hs => ?_⟩
    refine ⟨_, rfl, _, rfl, _, rfl, a, 2 + y, n + 1 + 1 + 1 + 3, ?_, F6.feed, by omega, by omega, by omega, fun H7 r F7 hr' => ?_⟩
    · show [V.ref a, V.int (2 + (y : Int))] = [V.ref a, V.int ((2 + y : Nat) : Int)]
      rw [Int.natCast_add]
      rfl
    refine ⟨(by show 4 ≤ sizeLine; decide), fun p hp => ?_⟩
    have s8 := same_new (o := .tup [.str "rest", .ref b, .int (2 + (y : Int)), .int (r : Int)]) hp
    have t : Tst H6 H7 := F7.tst F6.feed
    exact q _ p (.rest s (2 + (y : Int)) (r : Int)) ((((((F1.trans F15).trans F6).trans F7)).same s8).le (by omega)) ⟨b, upd_same, s8 _ _ (t _ _ hb)⟩ ⟨hs, by omega, by omega⟩ rfl
def spQuestion (d : Nat) : Sp := fun vs H Q _ => ∃ (a : Addr) (k m n : Nat) (z : Int), vs = [.ref a, .int (k : Int), .int (m : Int), .int z] ∧ FeedAt H a n ∧ n + m * 20 ≤ 1000 ∧ 1 ≤ k ∧ k ≤ 2 ∧ 1 ≤ m ∧ m ≤ 3 ∧ m < d ∧ ∀ (H' : Hp) (p : Addr) (q : Qn), Fd H H' a (n + m * 20) → QAt H' q p → q.Ok k → q.dp < m → Q (.ref p) H'
theorem d_l_question (Z : BN mg) (A : At K mg "_law_question" s_l_question ["_law_feed_here", "_law_sorts", "_law_size", "_law_deep"]) (D_l_next : Def P w K mg base 1 "_law_next" ["_law_feed_here", "_law_many_here"] [] spNext) (D_l_plain : Def P w K mg base 3 "_law_plain" ["_law_feed_here", "_law_sorts"] [] spPlain) :
    ∀ d, Def P w K mg base (d + 3) "_law_question" ["_law_feed_here", "_law_sorts", "_law_size", "_law_deep"] [] (spQuestion d)
  | 0 => (A.def (k := 2) sc_l_question (fun vs H Q E ⟨a, k, m, n, z, _, _, _, _, _, _, _, h, _⟩ => absurd h (Nat.not_lt_zero _)) fun f cdv A outer s H vs Q E hr ⟨a, k, m, n, z, _, _, _, _, _, _, _, h, _⟩ => absurd h (Nat.not_lt_zero _))
  | d + 1 => by
    have D_l_question := d_l_question Z A D_l_next D_l_plain d
    refine A.def (k := d + 3) sc_l_question (fun vs H Q E h => ?_) (fun f cdv A outer s H vs Q E hr h => ?_)
    · obtain ⟨a, k, m, n, z, rfl, _⟩ := h
      rfl
    obtain ⟨a, k, m, n, z, rfl, hF, hn, k1, k2, m1, m3, md, q⟩ := h
    refine ⟨_, (pss_cons (ps_set (i := 4) sc_l_question.nd rfl (Or.inl rfl) (pe_def D_l_next hr rfl (pa_cons (pv 0) (pa_cons pe_int pa_nil))))
    (pss_cons (ps_if (PW.pt (pw_or (pt_cmpR op_eq (pv 2) pe_int (by first | exact nomark _ | rfl)) (pw_or (pt_cmpR op_eq (pv 3) pe_int (by first | exact nomark _ | rfl)) (pw_or1 (pt_cmpR op_eq (pv 4) pe_int (by first | exact nomark _ | rfl)))))) (pss_one (ps_ret (pe_def D_l_plain hr rfl (pa_cons (pv 0) (pa_cons (pv 1) pa_nil))))) pss_nil)
    (pss_cons (ps_if (PW.pt (pw_or (pt_cmpR op_eq (pv 4) pe_int (by first | exact nomark _ | rfl)) (pw_or1 (pt_cmpR op_eq (pv 2) pe_int (by first | exact nomark _ | rfl))))) (pss_one (ps_ret (pe_tup (pa_cons pe_str (pa_cons (pe_def D_l_question hr rfl (pa_cons (pv 0) (pa_cons (pv 1) (pa_cons (pe_op op_sub (pv 2) pe_int) (pa_cons (pe_op op_sub (pv 3) pe_int) pa_nil))))) pa_nil))))) pss_nil)
    (pss_cons (ps_set (i := 5) sc_l_question.nd rfl (Or.inl rfl) (pe_op op_add pe_int (pe_def D_l_next hr rfl (pa_cons (pv 0) (pa_cons (pe_op op_sub (pv 2) pe_int) pa_nil)))))
    (pss_cons (ps_set (i := 6) sc_l_question.nd rfl (Or.inl rfl) (pe_def D_l_question hr rfl (pa_cons (pv 0) (pa_cons (pv 1) (pa_cons (pv 5) (pa_cons (pe_op op_sub (pv 3) pe_int) pa_nil))))))
    (pss_one (ps_ret (pe_tup (pa_cons (pe_ix ix_list0 (pe_lst (pa_cons pe_str (pa_cons pe_str pa_nil))) (pe_op op_mod (pv 4) pe_int) (fun _ _ => rfl)) (pa_cons (pv 6) (pa_cons (pe_def D_l_question hr rfl (pa_cons (pv 0) (pa_cons (pv 1) (pa_cons (pe_op op_sub (pe_op op_sub (pv 2) pe_int) (pv 5)) (pa_cons (pe_op op_sub (pv 3) pe_int) pa_nil))))) pa_nil))))))))))), ?_⟩
    refine ⟨_, rfl, a, 4, n, rfl, hF, by omega, by decide, by decide, fun H1 wy F1 hwy => ?_⟩
    have plain : ∀ (Qn' : VK), (∀ (H' : Hp) (p : Addr) (q : Qn), Fd H1 H' a (n + 1 + 10) → QAt H' q p → q.Ok k → q.dp = 0 → Qn' (.ref p) H') → spPlain [.ref a, .int (k : Int)] H1 Qn' E0 := fun Q' h => ⟨a, k, n + 1, rfl, F1.feed, by omega, k1, k2, h⟩
    have pl : ∀ (H' : Hp) (p : Addr) (q' : Qn), Fd H1 H' a (n + 1 + 10) → QAt H' q' p → q'.Ok k → q'.dp = 0 → Q (.ref p) H' := fun H' p q' F2 h1 h2 h3 => q H' p q' ((F1.trans F2).le (by omega)) h1 h2 (by omega)
    refine ⟨_, rfl, rfl, _, rfl, ?_⟩
    by_cases e1 : m = 1
    · subst e1
      exact ifY (by rfl) ⟨_, rfl, _, rfl, a, k, n + 1, rfl, F1.feed, by omega, k1, k2, pl⟩
    refine ifW (decide_eq_false (fun e => e1 (by injection e with e; omega))) ?_
    refine ⟨_, rfl, rfl, _, rfl, ite2 (fun _ => ⟨_, rfl, _, rfl, a, k, n + 1, rfl, F1.feed, by omega, k1, k2, pl⟩) (fun _ => ?_)⟩
    refine ⟨_, rfl, rfl, _, rfl, ite2 (fun _ => ⟨_, rfl, _, rfl, a, k, n + 1, rfl, F1.feed, by omega, k1, k2, pl⟩) (fun _ => ?_)⟩
    have nots : ∀ (H' : Hp) (b : Addr) (q' : Qn), Fd H1 H' a (n + 1 + (m - 1) * 20) → QAt H' q' b → q'.Ok k → q'.dp < m - 1 → ∀ p, H' p = none → Q (.ref p) (upd H' p (.tup [.str "not", .ref b])) := fun H' b q' F2 h1 h2 h3 p hp => by
      have s3 := same_new (o := .tup [.str "not", .ref b]) hp
      exact q _ p (.nt q') (((F1.trans F2).same s3).le (by omega)) ⟨b, upd_same, h1.mono (tst s3)⟩ h2 (by show q'.dp + 1 < m; omega)
    have em : (m : Int) - 1 = ((m - 1 : Nat) : Int) := by omega
    refine ⟨_, rfl, rfl, _, rfl, ite2 (fun _ => ?_) (fun _ => ?_)⟩
    · exact ⟨_, rfl, _, rfl, _, rfl, _, _, rfl, rfl, _, rfl, _, _, rfl, rfl, a, k, m - 1, n + 1, z - 1, (by show [V.ref a, V.int (k : Int), V.int ((m : Int) - 1), V.int (z - 1)] = _; rw [em]), F1.feed, by omega, k1, k2, by omega, by omega, by omega, fun H' b q' F2 h1 h2 h3 => ⟨(by show 2 ≤ sizeLine; decide), fun p hp => nots H' b q' F2 h1 h2 h3 p hp⟩⟩
    refine ⟨_, rfl, rfl, _, rfl, ?_⟩
    by_cases e2 : m = 2
    · refine ifY (decide_eq_true (by rw [e2]; rfl)) ?_
      exact ⟨_, rfl, _, rfl, _, rfl, _, _, rfl, rfl, _, rfl, _, _, rfl, rfl, a, k, m - 1, n + 1, z - 1, (by show [V.ref a, V.int (k : Int), V.int ((m : Int) - 1), V.int (z - 1)] = _; rw [em]), F1.feed, by omega, k1, k2, by omega, by omega, by omega, fun H' b q' F2 h1 h2 h3 => ⟨(by show 2 ≤ sizeLine; decide), fun p hp => nots H' b q' F2 h1 h2 h3 p hp⟩⟩
    refine ifW (decide_eq_false (fun e => e2 (by injection e with e; omega))) ?_
    have e3 : m = 3 := by omega
    subst e3
    refine ⟨_, rfl, _, rfl, _, _, rfl, rfl, a, 1, n + 1, rfl, F1.feed, by omega, by decide, by decide, fun H2 y F2 hy => ?_⟩
    have y0 : y = 0 := by omega
    subst y0
    refine ⟨_, _, rfl, rfl, ?_⟩
    refine ⟨_, rfl, _, rfl, _, rfl, _, rfl, _, _, rfl, rfl, a, k, 1, n + 1 + 1, _, rfl, F2.feed, by omega, k1, k2, by omega, by omega, by omega, fun H3 b1 q1 F3 hq1 ok1 dp1 => ?_⟩
    refine ⟨(by show 2 ≤ sizeLine; decide), fun l hl => ?_⟩
    have s4 := same_new (o := .lst [.str "both", .str "either"]) hl
    have F4 := (Fd.refl F3.feed).same s4
    have hwm : (wy : Int) % 2 = ((wy % 2 : Nat) : Int) := by omega
    obtain ⟨wd, hix, hwd⟩ : ∃ wd, atI [V.str "both", V.str "either"] ((wy : Int) % 2) = some (V.str wd) ∧ (wd = "both" ∨ wd = "either") := by
      rw [hwm]
      have : wy % 2 = 0 ∨ wy % 2 = 1 := by omega
      rcases this with e | e <;> rw [e]
      · exact ⟨"both", at_nat rfl, .inl rfl⟩
      · exact ⟨"either", at_nat rfl, .inr rfl⟩
    refine ⟨_, rfl, _, _, rfl, rfl, (by show (0 : Int) < 2; decide), l, _, _, _, rfl, rfl, Rd.of upd_same, hix, ?_⟩
    refine ⟨_, rfl, _, rfl, _, rfl, _, rfl, _, _, rfl, rfl, _, rfl, _, _, rfl, rfl, _, rfl, _, _, rfl, rfl, a, k, 1, n + 1 + 1 + 1 * 20, _, rfl, F4.feed, by omega, k1, k2, by omega, by omega, by omega, fun H5 b2 q2 F5 hq2 ok2 dp2 => ?_⟩
    refine ⟨(by show 3 ≤ sizeLine; decide), fun p hp => ?_⟩
    have s6 := same_new (o := .tup [.str wd, .ref b1, .ref b2]) hp
    have t35 : Tst H3 H5 := (tst s4).trans (F5.tst F4.feed)
    have FF := (((((F1.trans F2).trans F3).trans F4).trans F5).same s6).le (m := n + 3 * 20) (by omega)
    rcases hwd with e | e <;> subst e
    · exact q _ p (.both q1 q2) FF ⟨b1, b2, upd_same, hq1.mono (t35.trans (tst s6)), hq2.mono (tst s6)⟩ ⟨ok1, ok2⟩ (by show max q1.dp q2.dp + 1 < 3; omega)
    · exact q _ p (.either q1 q2) FF ⟨b1, b2, upd_same, hq1.mono (t35.trans (tst s6)), hq2.mono (tst s6)⟩ ⟨ok1, ok2⟩ (by show max q1.dp q2.dp + 1 < 3; omega)
end
end PB
namespace PB
open PySem PySem.Spec PyProof.Rows L2
/-! ### the law's own way behind a meeting -/
def miZ (z : Mt) : Nat → Nat
  | 0 => z.1
  | 1 => z.2.1
  | 2 => z.2.2.1
  | _ => z.2.2.2
def diZ : Nat → Int
  | 0 => -1
  | 1 => -1
  | _ => 1
def bst (c : List Int) (z : Mt) : Nat → List Int
  | 0 => c
  | i + 1 => bump (bst c z i) (miZ z i) (diZ i)
theorem bst_len (c : List Int) (z : Mt) : ∀ i, (bst c z i).length = c.length
  | 0 => rfl
  | i + 1 => by
    show (bump _ _ _).length = _
    rw [bump_len, bst_len c z i]
theorem bst4 (c : List Int) (z : Mt) : bst c z 4 = behind c z := rfl
theorem four {p : Nat → Prop} (h0 : p 0) (h1 : p 1) (h2 : p 2) (h3 : p 3) {i : Nat} (hi : i < 4) : p i := by
  match i, hi with
  | 0, _ => exact h0
  | 1, _ => exact h1
  | 2, _ => exact h2
  | 3, _ => exact h3
def okS (c : List Int) (z : Mt) (i : Nat) : Prop := (1 ≤ i → 1 ≤ c.getD z.1 0) ∧ (2 ≤ i → mayB c z = true)
theorem may_same {c : List Int} {z : Mt} (h : z.1 = z.2.1) : mayB c z = decide (2 ≤ c.getD z.1 0) := if_pos h
theorem may_diff {c : List Int} {z : Mt} (h : z.1 ≠ z.2.1) : mayB c z = (decide (1 ≤ c.getD z.1 0) && decide (1 ≤ c.getD z.2.1 0)) := if_neg h
theorem okS_step {c : List Int} {z : Mt} (hp : ∀ x ∈ c, 0 ≤ x) (hm : MtIn c.length z) {i : Nat} (hi : i < 4) (ok : okS c z i) :
    ((bst c z i).getD (miZ z i) 0 + diZ i < 0 → mayB c z = false) ∧ (¬ (bst c z i).getD (miZ z i) 0 + diZ i < 0 → okS c z (i + 1)) := by
  obtain ⟨z0, z1, z2, z3⟩ := z
  obtain ⟨m0, m1, m2, m3⟩ := hm
  simp only at m0 m1 m2 m3
  have p := pos_get hp
  revert ok hi
  match i with
  | 0 =>
    intro _ _
    show (c.getD z0 0 + -1 < 0 → _) ∧ (¬ c.getD z0 0 + -1 < 0 → _)
    refine ⟨fun h => ?_, fun h => ⟨fun _ => by show 1 ≤ c.getD z0 0; omega, fun h2 => absurd h2 (by decide)⟩⟩
    by_cases e : z0 = z1
    · rw [may_same e]
      exact decide_eq_false (by show ¬ 2 ≤ c.getD z0 0; omega)
    · rw [may_diff e, decide_eq_false (by show ¬ 1 ≤ c.getD z0 0; omega), Bool.false_and]
  | 1 =>
    intro _ ⟨b1, _⟩
    have a1 : 1 ≤ c.getD z0 0 := b1 (by decide)
    show ((bump c z0 (-1)).getD z1 0 + -1 < 0 → _) ∧ (¬ (bump c z0 (-1)).getD z1 0 + -1 < 0 → _)
    rw [bump_at m0]
    by_cases e : z0 = z1
    · subst e
      rw [if_pos rfl]
      refine ⟨fun h => ?_, fun h => ⟨fun _ => a1, fun _ => ?_⟩⟩
      · rw [may_same rfl]
        exact decide_eq_false (by show ¬ 2 ≤ c.getD z0 0; omega)
      · rw [may_same rfl]
        exact decide_eq_true (by show 2 ≤ c.getD z0 0; omega)
    · rw [if_neg (fun x => e x.symm)]
      refine ⟨fun h => ?_, fun h => ⟨fun _ => a1, fun _ => ?_⟩⟩
      · rw [may_diff e, decide_eq_false (p := 1 ≤ c.getD (z0, z1, z2, z3).2.1 0) (by show ¬ 1 ≤ c.getD z1 0; omega), Bool.and_false]
      · rw [may_diff e, decide_eq_true (by show 1 ≤ c.getD z0 0; omega), decide_eq_true (by show 1 ≤ c.getD z1 0; omega)]
        rfl
  | 2 =>
    intro _ ⟨a1, a2⟩
    have a1' : 1 ≤ c.getD z0 0 := a1 (by decide)
    have a2' := a2 (by decide)
    have C : Cr c.length c.sum c := ⟨rfl, hp, rfl⟩
    have nn : 0 ≤ (bump (bump c z0 (-1)) z1 (-1)).getD z2 0 := by
      rw [bump_at (by rw [bump_len]; exact m1), bump_at m0]
      have pi := p z2
      by_cases e : z0 = z1
      · subst e
        rw [may_same rfl] at a2'
        have : 2 ≤ c.getD z0 0 := of_decide_eq_true a2'
        by_cases ei : z2 = z0
        · subst ei
          rw [if_pos rfl]
          omega
        · rw [if_neg ei]
          omega
      · rw [may_diff e, Bool.and_eq_true] at a2'
        have h1 : 1 ≤ c.getD z1 0 := of_decide_eq_true a2'.2
        by_cases ei : z2 = z0
        · subst ei
          rw [if_pos rfl, if_neg e]
          omega
        · rw [if_neg ei]
          by_cases ej : z2 = z1
          · subst ej
            rw [if_pos rfl]
            omega
          · rw [if_neg ej]
            omega
    show ((bump (bump c z0 (-1)) z1 (-1)).getD z2 0 + 1 < 0 → _) ∧ (¬ (bump (bump c z0 (-1)) z1 (-1)).getD z2 0 + 1 < 0 → _)
    exact ⟨fun h => absurd h (by omega), fun _ => ⟨fun _ => a1', fun _ => a2'⟩⟩
  | 3 =>
    intro _ ⟨a1, a2⟩
    have a1' : 1 ≤ c.getD z0 0 := a1 (by decide)
    have a2' := a2 (by decide)
    have C : Cr c.length c.sum c := ⟨rfl, hp, rfl⟩
    have D := C.behind (m := (z0, z1, z2, z3)) ⟨m0, m1, m2, m3⟩ a2'
    have h4 := pos_get D.pos z3
    have e4 : behind c (z0, z1, z2, z3) = bump (bst c (z0, z1, z2, z3) 3) z3 1 := rfl
    rw [e4, bump_at (by rw [bst_len]; exact m3), if_pos rfl] at h4
    show ((bst c (z0, z1, z2, z3) 3).getD z3 0 + 1 < 0 → _) ∧ (¬ (bst c (z0, z1, z2, z3) 3).getD z3 0 + 1 < 0 → _)
    exact ⟨fun h => absurd h (by omega), fun _ => ⟨fun _ => a1', fun _ => a2'⟩⟩
  | i + 4 => intro h; omega
section
variable {P : Program} {w : World} {K : PySem.W.Frag} {mg : Str → Option Value} {base : Heap}
def spLBehind : Sp := fun vs H Q _ => ∃ (a m : Addr) (c : List Int) (z : Mt), vs = [.ref a, .ref m] ∧ H a = some (iT c) ∧ H m = some (.tup (mtV z)) ∧ MtIn c.length z ∧ (∀ x ∈ c, 0 ≤ x) ∧
  (mayB c z = true → ∀ H' p, Same H H' → H p = none → H' p = some (iT (behind c z)) → Q (.ref p) H') ∧ (mayB c z = false → ∀ H', Same H H' → Q .non H')
theorem d_l_behind (Z : BN mg) (A : At K mg "_law_behind" s_l_behind ["_law_crowd_here", "_law_meeting"]) : Def P w K mg base 1 "_law_behind" ["_law_crowd_here", "_law_meeting"] [] spLBehind := by
  refine A.def sc_l_behind (fun vs H Q E h => ?_) (fun f cdv A outer s H vs Q E hr h => ?_)
  · obtain ⟨a, m, c, z, rfl, _⟩ := h
    rfl
  obtain ⟨a, m, c, z, rfl, ha, hm, hz, hp, q1, q2⟩ := h
  refine ⟨_, (pss_cons (ps_set (i := 2) sc_l_behind.nd rfl (Or.inl rfl) (pe_callTy call_list0 (by rfl) Z.list (by decide +kernel) (pa_cons (pv 0) pa_nil)))
    (pss_cons (ps_for PassesOwn.never rfl (pi_range1 (by rfl) Z.range (pa_cons pe_int pa_nil)) (pg_name (i := 3) sc_l_behind.nd rfl (Or.inl rfl))
      (pss_cons (ps_augS (pv 2) (pe_ix ix_tup0 (pv 1) (pv 3) (fun _ _ => rfl)) get_list (pe_ix ix_list0 (pe_lst (pa_cons (pe_un un_neg pe_int) (pa_cons (pe_un un_neg pe_int) (pa_cons pe_int (pa_cons pe_int pa_nil))))) (pv 3) (fun _ _ => rfl)) ip_add set_list)
      (pss_one (ps_if (pt_cmpR op_lt (pe_ix ix_list0 (pv 2) (pe_ix ix_tup0 (pv 1) (pv 3) (fun _ _ => rfl)) (fun _ _ => rfl)) pe_int (by first | exact nomark _ | rfl)) (pss_one (ps_ret pe_non)) pss_nil))))
    (pss_one (ps_ret (pe_callTy call_tuple0 (by rfl) Z.tuple (by decide +kernel) (pa_cons (pv 2) pa_nil)))))), ?_⟩
  refine ⟨_, rfl, a, _, rfl, .inr (Rd.of ha), fun l hl => ?_⟩
  have s0 : Same H (upd H l (.lst (c.map V.int))) := same_new hl
  refine ⟨4, rfl, by decide, by decide, for_it (walk_range (lo := 0)) (fun i σ H' => ∃ v3, σ = [some (.ref a), some (.ref m), some (.ref l), v3] ∧ Same H H' ∧ H' l = some (.lst ((bst c z i).map V.int)) ∧ okS c z i)
    ⟨none, rfl, s0, upd_same, fun h => absurd h (by decide), fun h => absurd h (by decide)⟩ (fun _ _ _ _ _ => trivial) ?_ ?_⟩
  · rintro i x σ H1 H1' hi ⟨v3, rfl, sH, hl1, ok⟩ ⟨rfl, hx⟩
    have hx : x = V.int (i : Int) := by
      rw [hx]
      show V.int (0 + (i : Int)) = _
      rw [Int.zero_add]
    subst hx
    have hi : i < 4 := hi
    have e1 : atI (mtV z) (i : Int) = some (V.int (miZ z i : Int)) := four (p := fun i => atI (mtV z) (i : Int) = some (V.int (miZ z i : Int))) rfl rfl rfl rfl hi
    have e2 : atI [V.int (-1), V.int (-1), V.int 1, V.int 1] (i : Int) = some (V.int (diZ i)) := four (p := fun i => atI [V.int (-1), V.int (-1), V.int 1, V.int 1] (i : Int) = some (V.int (diZ i))) rfl rfl rfl rfl hi
    have hlt : miZ z i < (bst c z i).length := by
      rw [bst_len]
      exact four (p := fun i => miZ z i < c.length) hz.1 hz.2.1 hz.2.2.1 hz.2.2.2 hi
    obtain ⟨o1, o2⟩ := okS_step hp hz hi ok
    refine ⟨_, rfl, _, rfl, _, rfl, m, _, _, _, rfl, rfl, Rd.of (sH _ _ hm), e1, l, _, _, _, rfl, rfl, hl1, by omega, get_int hlt, ?_⟩
    refine ⟨_, rfl, _, rfl, (by show 4 ≤ sizeLine; decide), fun L hL => ?_⟩
    have s2 := same_new (o := .lst [.int (-1), .int (-1), .int 1, .int 1]) hL
    refine ⟨_, rfl, L, _, _, _, rfl, rfl, Rd.of upd_same, e2, _, _, rfl, rfl, l, _, _, miZ z i, rfl, rfl, s2 _ _ hl1, ixN_nat (by rw [List.length_map]; exact hlt), ?_⟩
    have sH2 := sH.trans s2
    have hl2 : upd (upd H1' L (.lst [.int (-1), .int (-1), .int 1, .int 1])) l (.lst (((bst c z i).map V.int).set (miZ z i) (.int ((bst c z i).getD (miZ z i) 0 + diZ i)))) l = some (.lst ((bst c z (i + 1)).map V.int)) := by
      rw [upd_same, map_bump]
      rfl
    have sH3 := same_upd (o := .lst (((bst c z i).map V.int).set (miZ z i) (.int ((bst c z i).getD (miZ z i) 0 + diZ i)))) sH2 hl
    have ev : (bst c z (i + 1)).getD (miZ z i) 0 = (bst c z i).getD (miZ z i) 0 + diZ i := by
      show (bump _ _ _).getD _ 0 = _
      rw [bump_get hlt, if_pos rfl]
    refine ⟨_, rfl, _, rfl, _, rfl, m, _, _, _, rfl, rfl, Rd.of (sH3 _ _ hm), e1, l, _, _, _, rfl, rfl, Rd.of hl2, at_int (by rw [bst_len, ← bst_len c z i]; exact hlt), _, _, rfl, rfl, _, rfl, ?_⟩
    dsimp only
    rw [ev]
    refine ite2 (fun hb => ?_) (fun hb => ?_)
    · exact q2 (o1 (of_decide_eq_true hb)) _ sH3
    · exact ⟨_, rfl, sH3, hl2, o2 (fun z => hb (decide_eq_true z))⟩
  · rintro σ H1 ⟨v3, rfl, sH, hl1, ok⟩
    have hl1 : H1 l = some (.lst ((bst c z 4).map V.int)) := hl1
    rw [bst4] at hl1
    have ok : okS c z 4 := ok
    refine ⟨_, rfl, l, _, rfl, Rd.of hl1, fun p hp' => ?_⟩
    exact q1 (ok.2 (by decide)) _ p (sH.trans (same_new hp')) (free_of sH hp') upd_same
def spLCan : Sp := fun vs H Q _ => ∃ (r a : Addr) (R : Rule) (c : List Int), vs = [.ref r, .ref a] ∧ RuleAt H r R ∧ R.Ok ∧ H a = some (iT c) ∧ c.length = R.n ∧ (∀ x ∈ c, 0 ≤ x) ∧ ∀ H' p, Same H H' → H' p = some (.lst (nV (canL R c))) → Q (.ref p) H'
theorem d_l_can (Z : BN mg) (A : At K mg "_law_can" s_l_can ["_law_rule_here", "_law_crowd_here"]) (D_l_behind : Def P w K mg base 1 "_law_behind" ["_law_crowd_here", "_law_meeting"] [] spLBehind) : Def P w K mg base 2 "_law_can" ["_law_rule_here", "_law_crowd_here"] [] spLCan := by
  refine A.def sc_l_can (fun vs H Q E h => ?_) (fun f cdv A outer s H vs Q E hr h => ?_)
  · obtain ⟨r, a, R, c, rfl, _⟩ := h
    rfl
  obtain ⟨r, a, R, c, rfl, hR, O, ha, hc, hp, q⟩ := h
  obtain ⟨st, m, y, ms, r0, r1, r2, r3, r4⟩ := hR.ex
  have ml : ms.length = R.meets.length := mts_len r3
  refine ⟨_, (pss_one (ps_ret (pe_lc (own := [("_law_k", 2)]) (g := (gName 2)) rfl sc_l_can.nd (pi_range1 (by rfl) Z.range (pa_cons (pe_callB call_len0 (by rfl) Z.len (by decide +kernel) (pa_cons (pe_ix ix_tup0 (pv 0) pe_int (fun _ _ => rfl)) pa_nil)) pa_nil)) (blkOk_by (own := [("_law_k", 2)]) (N := N_l_can) (sc := defScope s_l_can) (by decide +kernel)) (fun _ _ _ _ _ => (pg_name (i := 2) sc_l_can.nd rfl (Or.inl rfl))) (fun _ _ _ _ _ => pts_one (pt_cmpR op_notN (pe_def D_l_behind hr rfl (pa_cons (pv 1) (pa_cons (pe_ix ix_tup0 (pe_ix ix_tup0 (pv 0) pe_int (fun _ _ => rfl)) (pv 2) (fun _ _ => rfl)) pa_nil))) pe_non (by first | exact nomark _ | rfl))) (fun _ _ _ _ _ => (pv 2))))), ?_⟩
  refine ⟨_, rfl, r, _, _, _, rfl, rfl, Rd.of r0, at_nat (j := 2) rfl, m, _, rfl, .inr (Rd.of r2), (((ms.map V.ref).length : Nat) : Int), rfl, ?_, ?_, fun D hD => lc_it (walk_range (lo := 0)) (fun i H' => Same H H' ∧ H' D = some (.lst (nV (canI R c i))))
    ⟨same_new hD, upd_same⟩ (fun _ _ _ _ => trivial) ?_ ?_⟩
  · omega
  · have := O.ml
    rw [List.length_map, ml]
    omega
  · rintro i x H1 H1' hi ⟨sH, hD1⟩ ⟨rfl, hx⟩
    have hx : x = V.int (i : Int) := by
      rw [hx]
      show V.int (0 + (i : Int)) = _
      rw [Int.zero_add]
    subst hx
    have hi : i < ((((ms.map V.ref).length : Nat) : Int)).toNat := hi
    have hi' : i < R.meets.length := by
      rw [List.length_map, ml] at hi
      omega
    obtain ⟨p, hp1, hp2⟩ := mts_get r3 hi'
    have hz := O.mt _ (mt_mem hi')
    have hix : atI (ms.map V.ref) (i : Int) = some (.ref p) := at_nat (by rw [List.getElem?_map, hp1]; rfl)
    have hlen := canI_len R c i
    have hml := O.ml
    refine ⟨rfl, _, rfl, _, rfl, r, _, _, _, rfl, rfl, Rd.of (sH _ _ r0), at_nat (j := 2) rfl, _, rfl, m, _, _, _, rfl, rfl, Rd.of (sH _ _ r2), hix, ?_⟩
    refine ⟨a, p, c, R.mt i, rfl, sH _ _ ha, sH _ _ hp2, by rw [hc]; exact hz, hp, fun hm H2 u s2 _ hu => ?_, fun hm H2 s2 => ?_⟩
    · refine ⟨rfl, _, rfl, iteT ⟨_, rfl, _, s2 _ _ hD1, by rw [List.length_map]; exact len_lt (by omega), same_upd (sH.trans s2) hD, ?_⟩⟩
      rw [upd_same, ← nV_snoc]
      have : canI R c (i + 1) = canI R c i ++ [i] := by
        unfold canI
        rw [List.range_succ, List.filter_append, show List.filter (fun k => mayB c (R.mt k)) [i] = [i] from List.filter_cons_of_pos hm]
      rw [this]
    · refine ⟨rfl, _, rfl, iteF ⟨sH.trans s2, ?_⟩⟩
      have : canI R c (i + 1) = canI R c i := by
        unfold canI
        rw [List.range_succ, List.filter_append, show List.filter (fun k => mayB c (R.mt k)) [i] = [] from List.filter_cons_of_neg (by rw [hm]; decide), List.append_nil]
      rw [this]
      exact s2 _ _ hD1
  · rintro H1 ⟨sH, hD1⟩
    have e : ((((ms.map V.ref).length : Nat) : Int)).toNat = R.meets.length := by rw [List.length_map, ml]; omega
    rw [e] at hD1
    exact q H1 D sH hD1
def spLCrowd : Sp := fun vs H Q _ => ∃ (r a : Addr) (R : Rule) (cs : List Int), vs = [.ref r, .ref a] ∧ RuleAt H r R ∧ R.Ok ∧ H a = some (iT cs) ∧ cs.length = R.starts.length ∧ ∀ H' p, Same H H' → H' p = some (iT (beginC R cs)) → Q (.ref p) H'
theorem d_l_crowd (Z : BN mg) (A : At K mg "_law_crowd" s_l_crowd ["_law_rule_here", "_law_counts"]) : Def P w K mg base 1 "_law_crowd" ["_law_rule_here", "_law_counts"] [] spLCrowd := by
  refine A.def sc_l_crowd (fun vs H Q E h => ?_) (fun f cdv A outer s H vs Q E hr h => ?_)
  · obtain ⟨r, a, R, cs, rfl, _⟩ := h
    rfl
  obtain ⟨r, a, R, cs, rfl, hR, O, ha, hc, q⟩ := h
  obtain ⟨st, m, y, ms, r0, r1, r2, r3, r4⟩ := hR.ex
  have n4 := O.n4
  refine ⟨_, (pss_cons (ps_set (i := 2) sc_l_crowd.nd rfl (Or.inl rfl) (pe_op op_rep (pe_lst (pa_cons pe_int pa_nil)) (pe_ix ix_tup0 (pv 0) pe_int (fun _ _ => rfl))))
    (pss_cons (ps_for PassesOwn.never rfl (pi_range1 (by rfl) Z.range (pa_cons (pe_callB call_len0 (by rfl) Z.len (by decide +kernel) (pa_cons (pv 1) pa_nil)) pa_nil)) (pg_name (i := 3) sc_l_crowd.nd rfl (Or.inl rfl))
      (pss_one (ps_augS (pv 2) (pe_ix ix_tup0 (pe_ix ix_tup0 (pv 0) pe_int (fun _ _ => rfl)) (pv 3) (fun _ _ => rfl)) get_list (pe_ix ix_tup0 (pv 1) (pv 3) (fun _ _ => rfl)) ip_add set_list)))
    (pss_one (ps_ret (pe_callTy call_tuple0 (by rfl) Z.tuple (by decide +kernel) (pa_cons (pv 2) pa_nil)))))), ?_⟩
  refine ⟨by decide, fun l0 hl0 => ?_⟩
  have s0 : Same H (upd H l0 (.lst [.int 0])) := same_new hl0
  refine ⟨_, rfl, r, _, _, _, rfl, rfl, Rd.of (s0 _ _ r0), at_nat (j := 0) rfl, l0, _, _, rfl, rfl, upd_same, by omega, by omega, ?_, fun l hl => ?_⟩
  · show 1 * (R.n : Int).toNat ≤ sizeLine
    exact small_le (by omega)
  have hlH : H l = none := free_of s0 hl
  have s1 := same_upd (o := .lst (List.replicate (R.n : Int).toNat ([.int 0] : List V)).flatten) s0 hlH
  have s2 := O.s2
  refine ⟨_, rfl, a, _, rfl, .inr (Rd.of (s1 _ _ ha)), (((cs.map V.int).length : Nat) : Int), rfl, by omega, by rw [List.length_map]; omega, for_it (walk_range (lo := 0)) (fun i σ H' => ∃ v3, σ = [some (.ref r), some (.ref a), some (.ref l), v3] ∧ Same H H' ∧ H' l = some (.lst ((beginI R cs i).map V.int)))
    ⟨none, rfl, s1, ?_⟩ (fun _ _ _ _ _ => trivial) ?_ ?_⟩
  · rw [upd_same]
    show some (HO.lst (List.replicate R.n ([.int 0] : List V)).flatten) = _
    rw [rep_zero]
    rfl
  · rintro i x σ H1 H1' hi ⟨v3, rfl, sH, hl1⟩ ⟨rfl, hx⟩
    have hx : x = V.int (i : Int) := by
      rw [hx]
      show V.int (0 + (i : Int)) = _
      rw [Int.zero_add]
    subst hx
    have hi : i < ((((cs.map V.int).length : Nat) : Int)).toNat := hi
    have hi' : i < cs.length := by
      rw [List.length_map] at hi
      omega
    have hb : R.starts.getD i 0 < (beginI R cs i).length := by rw [beginI_len]; exact starts_lt O (by omega)
    refine ⟨_, rfl, _, rfl, r, _, _, _, rfl, rfl, Rd.of (sH _ _ r0), at_nat (j := 1) rfl, _, rfl, st, _, _, _, rfl, rfl, Rd.of (sH _ _ r1), at_natV (by omega), l, _, _, _, rfl, rfl, hl1, by omega, get_int hb, ?_⟩
    refine ⟨_, rfl, _, rfl, a, _, _, _, rfl, rfl, Rd.of (sH _ _ ha), at_int hi', _, _, rfl, rfl, l, _, _, _, rfl, rfl, hl1, ixN_nat (by rw [List.length_map]; exact hb), ?_⟩
    refine ⟨_, rfl, same_upd sH hlH, ?_⟩
    rw [upd_same, beginI_succ, ← map_bump]
    rfl
  · rintro σ H1 ⟨v3, rfl, sH, hl1⟩
    have e : ((((cs.map V.int).length : Nat) : Int)).toNat = cs.length := by rw [List.length_map]; omega
    rw [e] at hl1
    refine ⟨_, rfl, l, _, rfl, Rd.of hl1, fun p hp => ?_⟩
    exact q _ p (sH.trans (same_new hp)) upd_same
end
end PB
namespace PB
open PySem PySem.Spec PyProof.Rows L2
structure MJ (H : Hp) (l : Addr) (n c : Nat) (ms : List Mt) : Prop where
  ex : ∃ ps : List Addr, H l = some (.lst (ps.map V.ref)) ∧ MtsAt H ps ms
  inr : ∀ m ∈ ms, m.1 < n ∧ m.2.1 < n ∧ m.2.2.1 < n ∧ m.2.2.2 < n
  len : ms.length ≤ c
theorem MJ.mono {H H' : Hp} {l : Addr} {n c c' : Nat} {ms : List Mt} (G : MJ H l n c ms) (t : Tst H H') (hl : ∀ xs, H l = some (.lst xs) → H' l = some (.lst xs)) (hc : c ≤ c') : MJ H' l n c' ms := by
  obtain ⟨ps, h1, h2⟩ := G.ex
  exact ⟨⟨ps, hl _ h1, paired_mono h2 fun p q z => t _ _ z⟩, G.inr, Nat.le_trans G.len hc⟩
theorem MJ.at {H : Hp} {l : Addr} {n c : Nat} {ms : List Mt} (G : MJ H l n c ms) (hc : c < 1000) : ∃ xs, H l = some (.lst xs) ∧ xs.length < sizeLine := by
  obtain ⟨ps, h1, h2⟩ := G.ex
  have := G.len
  have := mts_len h2
  exact ⟨_, h1, by rw [List.length_map]; exact len_lt (by omega)⟩
theorem MJ.push {H : Hp} {l T : Addr} {n c : Nat} {ms : List Mt} {xs : List V} {m : Mt} (G : MJ H l n c ms) (hl : H l = some (.lst xs)) (hT : H T = some (.tup (mtV m))) (hm : m.1 < n ∧ m.2.1 < n ∧ m.2.2.1 < n ∧ m.2.2.2 < n) :
    MJ (upd H l (.lst (xs ++ [.ref T]))) l n (c + 1) (ms ++ [m]) := by
  obtain ⟨ps, h1, h2⟩ := G.ex
  rw [hl] at h1
  injection h1 with h1
  injection h1 with h1
  subst h1
  have t2 := tst_lst (o := .lst (ps.map V.ref ++ [.ref T])) hl
  refine ⟨⟨ps ++ [T], by rw [upd_same, List.map_append]; rfl, mts_snoc (paired_mono h2 fun p q z => t2 _ _ z) (t2 _ _ hT)⟩, fun x hx => ?_, by rw [List.length_append]; have := G.len; show ms.length + 1 ≤ c + 1; omega⟩
  rcases List.mem_append.mp hx with z | z
  · exact G.inr x z
  · rw [List.mem_singleton.mp z]
    exact hm
section
variable {P : Program} {w : World} {K : PySem.W.Frag} {mg : Str → Option Value} {base : Heap}
def spRule : Sp := fun vs H Q _ => ∃ (a : Addr) (k n : Nat), vs = [.ref a, .int 4, .int (k : Int)] ∧ FeedAt H a n ∧ n ≤ 1000 ∧ 1 ≤ k ∧ k ≤ 2 ∧ ∀ (H' : Hp) (p : Addr) (R : Rule), Fd H H' a (n + 100) → RuleAt H' p R → R.Ok → R.starts.length = k → Q (.ref p) H'
theorem d_l_rule (Z : BN mg) (A : At K mg "_law_rule" s_l_rule ["_law_feed_here", "_law_most", "_law_sorts"]) (D_l_next : Def P w K mg base 1 "_law_next" ["_law_feed_here", "_law_many_here"] [] spNext) (D_l_one : Def P w K mg base 2 "_law_one" ["_law_feed_here", "_law_some_here"] [] spOne) :
    Def P w K mg base 3 "_law_rule" ["_law_feed_here", "_law_most", "_law_sorts"] [] spRule := by
  refine A.def sc_l_rule (fun vs H Q E h => ?_) (fun f cdv A outer s H vs Q E hr h => ?_)
  · obtain ⟨a, k, n, rfl, _⟩ := h
    rfl
  obtain ⟨a, k, n, rfl, hF, hn, k1, k2, q⟩ := h
  refine ⟨_, (pss_cons (ps_set (i := 3) sc_l_rule.nd rfl (Or.inr rfl) (pe_op op_add pe_int (pe_def D_l_next hr rfl (pa_cons (pv 0) (pa_cons (pv 1) pa_nil)))))
    (pss_cons (ps_set (i := 4) sc_l_rule.nd rfl (Or.inl rfl) (pe_op op_add pe_int (pe_def D_l_next hr rfl (pa_cons (pv 0) (pa_cons pe_int pa_nil)))))
    (pss_cons (ps_set (i := 5) sc_l_rule.nd rfl (Or.inl rfl) (pe_lst pa_nil))
    (pss_cons (ps_for PassesOwn.never rfl (pi_range1 (by rfl) Z.range (pa_cons (pv 3) pa_nil)) (pg_name (i := 6) sc_l_rule.nd rfl (Or.inl rfl))
      (pss_one (ps_for PassesOwn.never rfl (pi_range2 (by rfl) Z.range (pa_cons (pv 6) (pa_cons (pv 3) pa_nil))) (pg_name (i := 7) sc_l_rule.nd rfl (Or.inl rfl))
        (pss_cons (ps_par (i := 8) (j := 9) rfl sc_l_rule.nd rfl rfl (by decide) rfl rfl (pa_cons (pe_def D_l_next hr rfl (pa_cons (pv 0) (pa_cons (pv 3) pa_nil))) (pa_cons (pe_def D_l_one hr rfl (pa_cons (pv 0) (pa_cons (pe_lst (pa_cons (pv 7) (pa_cons (pv 6) (pa_cons (pe_def D_l_next hr rfl (pa_cons (pv 0) (pa_cons (pv 3) pa_nil))) pa_nil)))) pa_nil))) pa_nil)) (by rfl))
        (pss_one (ps_if (PW.pt (pw_and (pt_cmpR op_eq (pe_def D_l_next hr rfl (pa_cons (pv 0) (pa_cons (pv 4) pa_nil))) pe_int (by first | exact nomark _ | rfl)) (pw_and1 (pt_cmpR (op_notIn2 hr) (pe_tup (pa_cons (pv 8) (pa_cons (pv 9) pa_nil))) (pe_tup (pa_cons (pe_tup (pa_cons (pv 6) (pa_cons (pv 7) pa_nil))) (pa_cons (pe_tup (pa_cons (pv 7) (pa_cons (pv 6) pa_nil))) pa_nil))) (by first | exact nomark _ | rfl))))) (pss_one (ps_expr (pe_bm PySem.F.plainAttrs_list PySem.F.slot_list_append PySem.F.type_list_append mt_append (pv 5) (pa_cons (pe_tup (pa_cons (pv 6) (pa_cons (pv 7) (pa_cons (pv 8) (pa_cons (pv 9) pa_nil))))) pa_nil)))) pss_nil))))))
    (pss_cons (ps_set (i := 10) sc_l_rule.nd rfl (Or.inl rfl) (pe_callTy call_tuple0 (by rfl) Z.tuple (by decide +kernel) (pa_cons (pe_lc (own := [("_law_sort", 11)]) (g := (gName 11)) rfl sc_l_rule.nd (pi_range1 (by rfl) Z.range (pa_cons (pv 2) pa_nil)) (blkOk_by (own := [("_law_sort", 11)]) (N := N_l_rule) (sc := defScope s_l_rule) (by decide +kernel)) (fun _ _ _ _ _ => (pg_name (i := 11) sc_l_rule.nd rfl (Or.inl rfl))) (fun _ _ _ _ _ => pts_nil) (fun _ _ _ _ _ => (pe_def D_l_next hr rfl (pa_cons (pv 0) (pa_cons (pv 3) pa_nil))))) pa_nil)))
    (pss_one (ps_ret (pe_tup (pa_cons (pv 3) (pa_cons (pv 10) (pa_cons (pe_callTy call_tuple0 (by rfl) Z.tuple (by decide +kernel) (pa_cons (pv 5) pa_nil)) (pa_cons (pe_callTy call_tuple0 (by rfl) Z.tuple (by decide +kernel) (pa_cons (pe_lc (own := [("_law_room", 12)]) (g := (gName 12)) rfl sc_l_rule.nd (pi_range1 (by rfl) Z.range (pa_cons (pv 3) pa_nil)) (blkOk_by (own := [("_law_room", 12)]) (N := N_l_rule) (sc := defScope s_l_rule) (by decide +kernel)) (fun _ _ _ _ _ => (pg_name (i := 12) sc_l_rule.nd rfl (Or.inl rfl))) (fun _ _ _ _ _ => pts_nil) (fun _ _ _ _ _ => (pe_cmpR op_eq (pe_def D_l_next hr rfl (pa_cons (pv 0) (pa_cons pe_int pa_nil))) pe_int (by first | exact nomark _ | rfl)))) pa_nil)) pa_nil)))))))))))), ?_⟩
  refine ⟨_, rfl, _, rfl, a, 4, n, rfl, hF, by omega, by decide, by decide, fun H1 d0 F1 hd0 => ?_⟩
  refine ⟨_, _, rfl, rfl, ?_⟩
  obtain ⟨rm, erm, rm1, rm4⟩ : ∃ rm : Nat, (1 : Int) + (d0 : Int) = (rm : Int) ∧ 1 ≤ rm ∧ rm ≤ 4 := ⟨1 + d0, by omega, by omega, by omega⟩
  refine ⟨_, rfl, a, 3, n + 1, rfl, F1.feed, by omega, by decide, by decide, fun H2 d1 F2 hd1 => ?_⟩
  refine ⟨_, _, rfl, rfl, ?_⟩
  obtain ⟨of, eof, of1, of3⟩ : ∃ rm : Nat, (1 : Int) + (d1 : Int) = (rm : Int) ∧ 1 ≤ rm ∧ rm ≤ 3 := ⟨1 + d1, by omega, by omega, by omega⟩
  have F02 := F1.trans F2
  refine ⟨Nat.zero_le _, fun l hl => ?_⟩
  have nla := F2.feed.ne hl
  have hl0 := F02.free hl
  have F3 := F02.same (same_new (o := .lst []) hl)
  dsimp only
  rw [erm, eof]
  refine ⟨_, rfl, (rm : Int), rfl, by omega, by omega, for_it (walk_range (lo := 0)) (fun i σ H' => ∃ v6 v7 v8 v9 ms, σ = [some (.ref a), some (.int 4), some (.int (k : Int)), some (.int (rm : Int)), some (.int (of : Int)), some (.ref l), v6, v7, v8, v9, none, none, none] ∧ Fd H H' a (n + 2 + i * 16) ∧ MJ H' l rm (i * 4) ms)
    ⟨none, none, none, none, [], rfl, F3, ⟨[], upd_same, .nil⟩, fun m hm => (by cases hm), Nat.zero_le _⟩ (fun _ _ _ _ _ => trivial) ?_ ?_⟩
  · rintro i x σ H4 H4' hi ⟨v6, v7, v8, v9, ms, rfl, F4, G⟩ ⟨rfl, hx⟩
    have hx : x = V.int (i : Int) := by
      rw [hx]
      show V.int (0 + (i : Int)) = _
      rw [Int.zero_add]
    subst hx
    have hi : i < (rm : Int).toNat := hi
    refine ⟨_, rfl, _, rfl, (i : Int), (rm : Int), rfl, by omega, for_it (walk_range (lo := (i : Int)) (n := ((rm : Int) - (i : Int)).toNat)) (fun j σ H' => ∃ v7 v8 v9 ms, σ = [some (.ref a), some (.int 4), some (.int (k : Int)), some (.int (rm : Int)), some (.int (of : Int)), some (.ref l), some (.int (i : Int)), v7, v8, v9, none, none, none] ∧ Fd H H' a (n + 2 + i * 16 + j * 4) ∧ MJ H' l rm (i * 4 + j) ms)
      ⟨_, _, _, ms, rfl, F4, G⟩ (fun _ _ _ _ _ => trivial) ?_ ?_⟩
    · rintro j x σ H5 H5' hj ⟨v7, v8, v9, ms, rfl, F5, G⟩ ⟨rfl, hx⟩
      have hj : j < ((rm : Int) - (i : Int)).toNat := hj
      have hx : x = V.int ((i + j : Nat) : Int) := by
        rw [hx]
        show V.int ((i : Int) + (j : Int)) = _
        rw [Int.natCast_add]
      subst hx
      generalize hbb : i + j = bb
      refine ⟨_, rfl, _, rfl, a, rm, n + 2 + i * 16 + j * 4, rfl, F5.feed, by omega, by omega, by omega, fun H6 c F6 hc => ?_⟩
      refine ⟨_, rfl, _, rfl, _, rfl, _, rfl, _, rfl, a, rm, n + 2 + i * 16 + j * 4 + 1, rfl, F6.feed, by omega, by omega, by omega, fun H7 y F7 hy => ?_⟩
      refine ⟨(by show 3 ≤ sizeLine; decide), fun lo hlo => ?_⟩
      have s8 := same_new (o := .lst [.int (bb : Int), .int (i : Int), .int (y : Int)]) hlo
      have F8 := F7.same s8
      refine ⟨a, lo, n + 2 + i * 16 + j * 4 + 1 + 1, [.int (bb : Int), .int (i : Int), .int (y : Int)], rfl, F8.feed, by omega, upd_same, F7.feed.ne hlo, by show 1 ≤ 3; decide, by show 3 ≤ 1000; decide, fun H9 z v F9 hv => ?_⟩
      obtain ⟨d, e, hd⟩ : ∃ d : Nat, v = .int (d : Int) ∧ d < rm := by
        match z, hv with
        | 0, hv => exact ⟨bb, (Option.some.inj hv).symm, by omega⟩
        | 1, hv => exact ⟨i, (Option.some.inj hv).symm, by omega⟩
        | 2, hv => exact ⟨y, (Option.some.inj hv).symm, hy⟩
        | z + 3, hv => exact absurd hv (by simp)
      subst e
      refine ⟨_, _, rfl, ?_⟩
      have F69 := (F6.trans F8).trans F9
      have F59 := F5.trans F69
      have nlH5 : l ≠ a := nla
      have G9 : MJ H9 l rm (i * 4 + j) ms := G.mono (F69.tst F5.feed) (fun xs h => F69.keep _ _ nlH5 h) (Nat.le_refl _)
      refine ⟨_, rfl, _, rfl, a, of, n + 2 + i * 16 + j * 4 + 1 + 1 + 1, rfl, F9.feed, by omega, of1, by omega, fun H10 w0 F10 hw0 => ?_⟩
      have F510 := F59.trans F10
      have G10 : MJ H10 l rm (i * 4 + j) ms := G9.mono (F10.tst F9.feed) (fun xs h => F10.keep _ _ nla h) (Nat.le_refl _)
      have skip : ∀ H', Fd H H' a (n + 2 + i * 16 + j * 4 + 1 + 1 + 1 + 1) → MJ H' l rm (i * 4 + j) ms → Fd H H' a (n + 2 + i * 16 + (j + 1) * 4) ∧ MJ H' l rm (i * 4 + (j + 1)) ms := fun H' f g => ⟨f.le (by omega), g.mono (Tst.refl _) (fun _ h => h) (by omega)⟩
      refine ⟨rfl, _, rfl, ite2 (fun _ => ?_) (fun _ => ?_)⟩
      · refine ⟨_, rfl, _, rfl, (by show 2 ≤ sizeLine; decide), fun t1 h1 => ?_⟩
        have s1 := same_new (o := .tup [.int (c : Int), .int (d : Int)]) h1
        refine ⟨_, rfl, _, rfl, (by show 2 ≤ sizeLine; decide), fun t2 h2 => ?_⟩
        have s2 := same_new (o := .tup [.int (i : Int), .int (bb : Int)]) h2
        refine ⟨_, rfl, _, rfl, (by show 2 ≤ sizeLine; decide), fun t3 h3 => ?_⟩
        have s3 := same_new (o := .tup [.int (bb : Int), .int (i : Int)]) h3
        refine ⟨(by show 2 ≤ sizeLine; decide), fun t4 h4 => ?_⟩
        have s4 := same_new (o := .tup [.ref t2, .ref t3]) h4
        refine ⟨t1, t4, [t2, t3], [(c : Int), (d : Int)], [[(i : Int), (bb : Int)], [(bb : Int), (i : Int)]], rfl, rfl, (s2.trans (s3.trans s4)) _ _ upd_same, upd_same, .cons ((s3.trans s4) _ _ upd_same) (.cons (s4 _ _ upd_same) .nil), fun t => ⟨_, rfl, ?_⟩⟩
        have s14 := s1.trans (s2.trans (s3.trans s4))
        have F11 := F510.same s14
        have G11 := G10.mono (tst s14) (fun xs h => s14 _ _ h) (Nat.le_refl _)
        refine ite2 (fun _ => ?_) (fun _ => ?_)
        · obtain ⟨xs, hxs, hxl⟩ := G11.at (by omega)
          refine ⟨_, rfl, .inl ⟨rfl, _, SqL.of hxs⟩, _, rfl, _, rfl, _, rfl, _, rfl, (by show 4 ≤ sizeLine; decide), fun T hT => ?_⟩
          have s5 := same_new (o := .tup (mtV (i, bb, c, d))) hT
          have G12 := G11.mono (tst s5) (fun xs h => s5 _ _ h) (Nat.le_refl _)
          refine ⟨l, _, _, rfl, rfl, s5 _ _ hxs, hxl, ?_⟩
          have G13 := G12.push (s5 _ _ hxs) (m := (i, bb, c, d)) upd_same ⟨by show i < rm; omega, by show bb < rm; omega, hc, hd⟩
          exact ⟨_, _, _, _, rfl, ((F11.same s5).upd hl0 nla).le (by omega), G13⟩
        · exact ⟨_, _, _, _, rfl, skip _ F11 G11⟩
      · exact ⟨_, _, _, _, rfl, skip _ F510 G10⟩
    · rintro σ H5 ⟨v7, v8, v9, ms, rfl, F5, G⟩
      exact ⟨_, _, _, _, ms, rfl, F5.le (by omega), G.mono (Tst.refl _) (fun _ h => h) (by omega)⟩
  rintro σ H4 ⟨v6, v7, v8, v9, ms, rfl, F4, G⟩
  have erm' : (rm : Int).toNat = rm := by omega
  rw [erm'] at F4 G
  -- starts
  refine ⟨_, rfl, (k : Int), rfl, by omega, by omega, fun D hD => lc_it (walk_range (lo := 0)) (fun i H' => Fd H4 H' a (n + 2 + rm * 16 + i) ∧ ∃ xs : List Nat, H' D = some (.lst (nV xs)) ∧ xs.length = i ∧ ∀ x ∈ xs, x < rm)
    ⟨(Fd.refl F4.feed).same (same_new hD), [], upd_same, rfl, fun x hx => (by cases hx)⟩ (fun _ _ _ _ => trivial) ?_ ?_⟩
  · rintro i v H5 H5' hi ⟨F5, xs, hD5, hxl, hxr⟩ ⟨rfl, hx⟩
    have hi : i < (k : Int).toNat := hi
    have nDa := F4.feed.ne hD
    refine ⟨rfl, _, rfl, _, rfl, a, rm, n + 2 + rm * 16 + i, rfl, F5.feed, by omega, by omega, by omega, fun H6 d F6 hd => ?_⟩
    refine ⟨_, F6.keep _ _ nDa hD5, by rw [List.length_map]; exact len_lt (by omega), (F5.trans F6).upd hD nDa, xs ++ [d], by rw [upd_same, nV_snoc], by rw [List.length_append, hxl]; rfl, fun x hx => ?_⟩
    rcases List.mem_append.mp hx with z | z
    · exact hxr x z
    · rw [List.mem_singleton.mp z]
      exact hd
  rintro H5 ⟨F5, st, hD5, hstl, hstr⟩
  have ek : (k : Int).toNat = k := by omega
  rw [ek] at F5 hstl
  have nlH4 := nla
  obtain ⟨ps, hpl, hpm⟩ := G.ex
  refine ⟨D, _, rfl, Rd.of hD5, fun sa hsa => ?_⟩
  have s6 := same_new (o := .tup (nV st)) hsa
  have F6 := F5.same s6
  have hpl6 := F6.keep _ _ nla hpl
  refine ⟨_, rfl, _, rfl, _, rfl, l, _, rfl, Rd.of hpl6, fun mt hmt => ?_⟩
  have s7 := same_new (o := .tup (ps.map V.ref)) hmt
  have F7 := F6.same s7
  refine ⟨_, rfl, (rm : Int), rfl, by omega, by omega, fun D2 hD2 => lc_it (walk_range (lo := 0)) (fun i H' => Fd (upd (upd H5 sa (.tup (nV st))) mt (.tup (ps.map V.ref))) H' a (n + 2 + rm * 16 + k + i) ∧ ∃ xs : List Bool, H' D2 = some (.lst (xs.map V.bl)) ∧ xs.length = i)
    ⟨(Fd.refl F7.feed).same (same_new hD2), [], upd_same, rfl⟩ (fun _ _ _ _ => trivial) ?_ ?_⟩
  · rintro i v H8 H8' hi ⟨F8, xs, hD8, hxl⟩ ⟨rfl, hx⟩
    have hi : i < (rm : Int).toNat := hi
    have nDa := F7.feed.ne hD2
    refine ⟨rfl, _, rfl, a, 2, n + 2 + rm * 16 + k + i, rfl, F8.feed, by omega, by decide, by decide, fun H9 d F9 hd => ?_⟩
    refine ⟨rfl, _, F9.keep _ _ nDa hD8, by rw [List.length_map]; exact len_lt (by omega), (F8.trans F9).upd hD2 nDa, xs ++ [decide (V.int (d : Int) = V.int 0)], by rw [upd_same, List.map_append]; rfl, by rw [List.length_append, hxl]; rfl⟩
  rintro H8 ⟨F8, ys, hD8, hyl⟩
  rw [erm'] at F8 hyl
  refine ⟨D2, _, rfl, Rd.of hD8, fun y hy => ?_⟩
  have s9 := same_new (o := .tup (ys.map V.bl)) hy
  refine ⟨(by show 4 ≤ sizeLine; decide), fun p hp => ?_⟩
  have s10 := same_new (o := .tup [.int (rm : Int), .ref sa, .ref mt, .ref y]) hp
  have t7 := tst s7
  have t78 : Tst _ H8 := F8.tst F7.feed
  have t810 : Tst H8 _ := tst (s9.trans s10)
  have tall := (t7.trans t78).trans t810
  refine q _ p ⟨rm, st, ms, ys⟩ ((((((F4.trans F7)).trans F8).same (s9.trans s10))).le (by omega)) ⟨sa, mt, y, ps, upd_same, tall _ _ upd_same, (t78.trans t810) _ _ upd_same, paired_mono hpm fun p m z => tall _ _ ((F6.tst F4.feed) _ _ z), s10 _ _ upd_same⟩ ?_ hstl
  have := G.len
  exact ⟨rm1, rm4, hstr, by show 1 ≤ st.length; omega, by show st.length ≤ 2; omega, G.inr, by show ms.length ≤ 100; omega, hyl⟩
end
end PB
namespace PB
open PySem PySem.Spec PyProof.Rows L2
def handsF (s : List Nat) (cs : List Int) (i : Nat) : List Int := ((List.range i).filter fun i => decide (i ∈ s)).map fun i => cs.getD i 0
theorem handsF_all {s : List Nat} {cs : List Int} (h : SomeOk cs.length s) : (handsF s cs cs.length).sum = handsOf s cs := by
  unfold handsF handsOf
  unfold SomeOk at h
  rw [← h]
theorem handsF_len (s : List Nat) (cs : List Int) (i : Nat) : (handsF s cs i).length ≤ i := by
  unfold handsF
  rw [List.length_map]
  have := List.length_filter_le (fun i => decide (i ∈ s)) (List.range i)
  rwa [List.length_range] at this
theorem handsF_in {s : List Nat} {cs : List Int} {i : Nat} (h : i ∈ s) : handsF s cs (i + 1) = handsF s cs i ++ [cs.getD i 0] := by
  unfold handsF
  rw [List.range_succ, List.filter_append, show List.filter (fun i => decide (i ∈ s)) [i] = [i] from List.filter_cons_of_pos (decide_eq_true h), List.map_append]
  rfl
theorem handsF_out {s : List Nat} {cs : List Int} {i : Nat} (h : i ∉ s) : handsF s cs (i + 1) = handsF s cs i := by
  unfold handsF
  rw [List.range_succ, List.filter_append, show List.filter (fun i => decide (i ∈ s)) [i] = [] from List.filter_cons_of_neg (by rw [decide_eq_false h]; decide), List.append_nil]
section
variable {P : Program} {w : World} {K : PySem.W.Frag} {mg : Str → Option Value} {base : Heap}
def spLTruth (d : Nat) : Sp := fun vs H Q _ => ∃ (b a : Addr) (q : Qn) (cs : List Int), vs = [.ref b, .ref a] ∧ q.dp < d ∧ q.Ok cs.length ∧ cs.length ≤ 100 ∧ QAt H q b ∧ H a = some (iT cs) ∧ ∀ H', Same H H' → Q (.bl (q.truth cs)) H'
theorem d_l_truth (Z : BN mg) (A : At K mg "_law_truth" s_l_truth ["_law_question_here", "_law_counts"]) : ∀ d, Def P w K mg base (d + 1) "_law_truth" ["_law_question_here", "_law_counts"] [] (spLTruth d)
  | 0 => A.def sc_l_truth (fun vs H Q E ⟨b, a, q, cs, _, h, _⟩ => absurd h (Nat.not_lt_zero _)) fun f cdv A outer s H vs Q E hr ⟨b, a, q, cs, _, h, _⟩ => absurd h (Nat.not_lt_zero _)
  | d + 1 => by
    have D_l_truth := d_l_truth Z A d
    refine A.def sc_l_truth (fun vs H Q E h => ?_) (fun f cdv A outer s H vs Q E hr h => ?_)
    · obtain ⟨b, a, q, cs, rfl, _⟩ := h
      rfl
    obtain ⟨b, a, q, cs, rfl, hd, hk, hc, hb, ha, q'⟩ := h
    refine ⟨_, (pss_cons (ps_set (i := 2) sc_l_truth.nd rfl (Or.inl rfl) (pe_ix ix_tup0 (pv 0) pe_int (fun _ _ => rfl)))
    (pss_cons (ps_if (pt_cmpR op_eq (pv 2) pe_str (by first | exact nomark _ | rfl)) (pss_one (ps_ret (pe_not (pe_def D_l_truth hr rfl (pa_cons (pe_ix ix_tup0 (pv 0) pe_int (fun _ _ => rfl)) (pa_cons (pv 1) pa_nil)))))) pss_nil)
    (pss_cons (ps_if (pt_cmpR op_in0 (pv 2) (pe_tup (pa_cons pe_str (pa_cons pe_str pa_nil))) (by first | exact nomark _ | rfl)) (pss_cons (ps_setLc (i := 3) (own := [("_law_part", 5)]) (g := (gName 5)) rfl sc_l_truth.nd rfl rfl (sw_true rfl rfl rfl (by decide +kernel)) (pi_tup (pe_slice sl_tup0 (pv 0) (po_some pe_int) po_none)) (blkOk_by (own := [("_law_part", 5)]) (N := N_l_truth) (sc := defScope s_l_truth) (by decide +kernel)) (fun _ _ _ _ _ => (pg_name (i := 5) sc_l_truth.nd rfl (Or.inl rfl))) (fun _ _ _ _ _ => pts_nil) (fun _ _ _ _ _ => (pe_def D_l_truth hr rfl (pa_cons (pv 5) (pa_cons (pv 1) pa_nil)))))
      (pss_one (ps_ret (pe_ifExp (pt_cmpR op_eq (pv 2) pe_str (by first | exact nomark _ | rfl)) (pe_and (pe_ix ix_list0 (pv 3) pe_int (fun _ _ => rfl)) (pe_one (pe_ix ix_list0 (pv 3) pe_int (fun _ _ => rfl)))) (pe_or (pe_ix ix_list0 (pv 3) pe_int (fun _ _ => rfl)) (pe_one (pe_ix ix_list0 (pv 3) pe_int (fun _ _ => rfl)))))))) pss_nil)
    (pss_cons (ps_set (i := 4) sc_l_truth.nd rfl (Or.inl rfl) (pe_callB (cr_sum0 rfl) (by rfl) Z.sum (by decide +kernel) (pa_cons (pe_lc (own := [("_law_sort", 6), ("_law_many_here", 7)]) (g := (gTup0 2 (gCons (gName 6) (gCons (gName 7) gNil)))) rfl sc_l_truth.nd (pi_enumT (by rfl) Z.enumerate (pa_cons (pv 1) pa_nil)) (blkOk_by (own := [("_law_sort", 6), ("_law_many_here", 7)]) (N := N_l_truth) (sc := defScope s_l_truth) (by decide +kernel)) (fun _ _ _ _ _ => (pg_tup0 rfl (pgs_cons (pg_name (i := 6) sc_l_truth.nd rfl (Or.inl rfl)) (pgs_cons (pg_name (i := 7) sc_l_truth.nd rfl (Or.inl rfl)) pgs_nil)))) (fun _ _ _ _ _ => pts_one (pt_cmpR op_in0 (pv 6) (pe_ix ix_tup0 (pv 0) pe_int (fun _ _ => rfl)) (by first | exact nomark _ | rfl))) (fun _ _ _ _ _ => (pv 7))) pa_nil)))
    (pss_cons (ps_if (pt_cmpR op_eq (pv 2) pe_str (by first | exact nomark _ | rfl)) (pss_one (ps_ret (pe_cmpR op_ge (pv 4) (pe_ix ix_tup0 (pv 0) pe_int (fun _ _ => rfl)) (by first | exact nomark _ | rfl)))) pss_nil)
    (pss_cons (ps_if (pt_cmpR op_eq (pv 2) pe_str (by first | exact nomark _ | rfl)) (pss_one (ps_ret (pe_cmpR op_gt (pv 4) (pe_callB (cr_sum0 rfl) (by rfl) Z.sum (by decide +kernel) (pa_cons (pe_lc (own := [("_law_sort", 6), ("_law_many_here", 7)]) (g := (gTup0 2 (gCons (gName 6) (gCons (gName 7) gNil)))) rfl sc_l_truth.nd (pi_enumT (by rfl) Z.enumerate (pa_cons (pv 1) pa_nil)) (blkOk_by (own := [("_law_sort", 6), ("_law_many_here", 7)]) (N := N_l_truth) (sc := defScope s_l_truth) (by decide +kernel)) (fun _ _ _ _ _ => (pg_tup0 rfl (pgs_cons (pg_name (i := 6) sc_l_truth.nd rfl (Or.inl rfl)) (pgs_cons (pg_name (i := 7) sc_l_truth.nd rfl (Or.inl rfl)) pgs_nil)))) (fun _ _ _ _ _ => pts_one (pt_cmpR op_in0 (pv 6) (pe_ix ix_tup0 (pv 0) pe_int (fun _ _ => rfl)) (by first | exact nomark _ | rfl))) (fun _ _ _ _ _ => (pv 7))) pa_nil)) (by first | exact nomark _ | rfl)))) pss_nil)
    (pss_one (ps_ret (pe_cmpR op_eq (pe_op op_mod (pe_op op_sub (pv 4) (pe_ix ix_tup0 (pv 0) pe_int (fun _ _ => rfl))) (pe_ix ix_tup0 (pv 0) pe_int (fun _ _ => rfl))) pe_int (by first | exact nomark _ | rfl)))))))))), ?_⟩
    cases q with
    | least s n =>
      obtain ⟨b1, h1, h2⟩ := hb
      refine ⟨_, rfl, b, _, _, _, rfl, rfl, Rd.of h1, at_nat (j := 0) rfl, ?_⟩
      refine ⟨_, rfl, rfl, _, rfl, ifW (by decide +kernel) ?_⟩
      refine ⟨_, rfl, (by show 2 ≤ sizeLine; decide), fun t ht => ?_⟩
      have s1 := same_new (o := .tup [.str "both", .str "either"]) ht
      refine ⟨t, _, rfl, .inr (Rd.of upd_same), rfl, rfl, _, rfl, ifW (by decide +kernel) ?_⟩
      refine ⟨_, rfl, a, _, rfl, SqT.of (s1 _ _ ha), fun D hD => lc_it walk_enumT (fun i H' => Same (upd H t (.tup [.str "both", .str "either"])) H' ∧ H' D = some (.lst ((handsF s cs i).map V.int)))
        ⟨same_new hD, upd_same⟩ (fun i H' _ h => SqT.of ((s1.trans h.1) _ _ ha)) ?_ ?_⟩
      · rintro i x H2 H2' hi ⟨s2, hD2'⟩ ⟨T, x1, p, rfl, hT, rfl, e1, e2⟩
        have hi' : i < cs.length := by rwa [List.length_map] at hi
        have e2 : (cs.map V.int)[i]? = some p := e2
        rw [get_int hi'] at e2
        obtain rfl : V.int (cs.getD i 0) = p := Option.some.inj e2
        obtain rfl : V.int (i : Int) = x1 := Option.some.inj e1
        have s3 := s2.trans (same_new (o := .tup [.int (i : Int), .int (cs.getD i 0)]) hT)
        have nDT : D ≠ T := fun e => by rw [← e, hD2'] at hT; cases hT
        refine ⟨T, _, rfl, Rd.of upd_same, rfl, _, _, rfl, _, _, rfl, rfl, rfl, _, rfl, _, rfl, b, _, _, _, rfl, rfl, Rd.of ((s1.trans s3) _ _ h1), at_nat (j := 1) rfl, b1, _, rfl, .inr (Rd.of ((s1.trans s3) _ _ h2)), rfl, flat_nat _, _, rfl, ?_⟩
        show if inV (V.int (i : Int)) (nV s) = true then _ else _
        rw [inV_nat]
        by_cases e : i ∈ s
        · rw [decide_eq_true e]
          refine iteT ⟨_, rfl, _, by rw [upd_ne nDT]; exact hD2', ?_, same_upd s3 hD, ?_⟩
          · rw [List.length_map]
            have := handsF_len s cs i
            exact len_lt (by omega)
          · rw [upd_same, handsF_in e, List.map_append]
            rfl
        · rw [decide_eq_false e]
          refine iteF ⟨s3, ?_⟩
          rw [upd_ne nDT, handsF_out e]
          exact hD2'
      rintro H1 ⟨sH, hD1⟩
      rw [List.length_map] at hD1
      refine ⟨D, _, rfl, Rd.of hD1, ?_⟩
      rw [handsF_all hk]
      refine ⟨_, rfl, rfl, _, rfl, ifY (by decide +kernel) ?_⟩
      exact ⟨_, rfl, _, rfl, b, _, _, _, rfl, rfl, Rd.of ((s1.trans sH) _ _ h1), at_nat (j := 2) rfl, _, _, rfl, rfl, q' _ (s1.trans sH)⟩
    | more s t_ =>
      obtain ⟨b1, b2, h1, h2, h3⟩ := hb
      obtain ⟨k1, k2⟩ := hk
      have hk := k1
      refine ⟨_, rfl, b, _, _, _, rfl, rfl, Rd.of h1, at_nat (j := 0) rfl, ?_⟩
      refine ⟨_, rfl, rfl, _, rfl, ifW (by decide +kernel) ?_⟩
      refine ⟨_, rfl, (by show 2 ≤ sizeLine; decide), fun t ht => ?_⟩
      have s1 := same_new (o := .tup [.str "both", .str "either"]) ht
      refine ⟨t, _, rfl, .inr (Rd.of upd_same), rfl, rfl, _, rfl, ifW (by decide +kernel) ?_⟩
      refine ⟨_, rfl, a, _, rfl, SqT.of (s1 _ _ ha), fun D hD => lc_it walk_enumT (fun i H' => Same (upd H t (.tup [.str "both", .str "either"])) H' ∧ H' D = some (.lst ((handsF s cs i).map V.int)))
        ⟨same_new hD, upd_same⟩ (fun i H' _ h => SqT.of ((s1.trans h.1) _ _ ha)) ?_ ?_⟩
      · rintro i x H2 H2' hi ⟨s2, hD2'⟩ ⟨T, x1, p, rfl, hT, rfl, e1, e2⟩
        have hi' : i < cs.length := by rwa [List.length_map] at hi
        have e2 : (cs.map V.int)[i]? = some p := e2
        rw [get_int hi'] at e2
        obtain rfl : V.int (cs.getD i 0) = p := Option.some.inj e2
        obtain rfl : V.int (i : Int) = x1 := Option.some.inj e1
        have s3 := s2.trans (same_new (o := .tup [.int (i : Int), .int (cs.getD i 0)]) hT)
        have nDT : D ≠ T := fun e => by rw [← e, hD2'] at hT; cases hT
        refine ⟨T, _, rfl, Rd.of upd_same, rfl, _, _, rfl, _, _, rfl, rfl, rfl, _, rfl, _, rfl, b, _, _, _, rfl, rfl, Rd.of ((s1.trans s3) _ _ h1), at_nat (j := 1) rfl, b1, _, rfl, .inr (Rd.of ((s1.trans s3) _ _ h2)), rfl, flat_nat _, _, rfl, ?_⟩
        show if inV (V.int (i : Int)) (nV s) = true then _ else _
        rw [inV_nat]
        by_cases e : i ∈ s
        · rw [decide_eq_true e]
          refine iteT ⟨_, rfl, _, by rw [upd_ne nDT]; exact hD2', ?_, same_upd s3 hD, ?_⟩
          · rw [List.length_map]
            have := handsF_len s cs i
            exact len_lt (by omega)
          · rw [upd_same, handsF_in e, List.map_append]
            rfl
        · rw [decide_eq_false e]
          refine iteF ⟨s3, ?_⟩
          rw [upd_ne nDT, handsF_out e]
          exact hD2'
      rintro H1 ⟨sH, hD1⟩
      rw [List.length_map] at hD1
      refine ⟨D, _, rfl, Rd.of hD1, ?_⟩
      rw [handsF_all hk]
      refine ⟨_, rfl, rfl, _, rfl, ifW (by decide +kernel) ?_⟩
      refine ⟨_, rfl, rfl, _, rfl, ifY (by decide +kernel) ?_⟩
      have s1H := s1.trans sH
      refine ⟨_, rfl, _, rfl, a, _, rfl, SqT.of (s1H _ _ ha), fun D2 hD2 => lc_it walk_enumT (fun i H' => Same H1 H' ∧ H' D2 = some (.lst ((handsF t_ cs i).map V.int)))
        ⟨same_new hD2, upd_same⟩ (fun i H' _ h => SqT.of ((s1H.trans h.1) _ _ ha)) ?_ ?_⟩
      · rintro i x H2 H2' hi ⟨s2, hD2'⟩ ⟨T, x1, p, rfl, hT, rfl, e1, e2⟩
        have hi' : i < cs.length := by rwa [List.length_map] at hi
        have e2 : (cs.map V.int)[i]? = some p := e2
        rw [get_int hi'] at e2
        obtain rfl : V.int (cs.getD i 0) = p := Option.some.inj e2
        obtain rfl : V.int (i : Int) = x1 := Option.some.inj e1
        have s3 := s2.trans (same_new (o := .tup [.int (i : Int), .int (cs.getD i 0)]) hT)
        have nDT : D2 ≠ T := fun e => by rw [← e, hD2'] at hT; cases hT
        refine ⟨T, _, rfl, Rd.of upd_same, rfl, _, _, rfl, _, _, rfl, rfl, rfl, _, rfl, _, rfl, b, _, _, _, rfl, rfl, Rd.of ((s1H.trans s3) _ _ h1), at_nat (j := 2) rfl, b2, _, rfl, .inr (Rd.of ((s1H.trans s3) _ _ h3)), rfl, flat_nat _, _, rfl, ?_⟩
        show if inV (V.int (i : Int)) (nV t_) = true then _ else _
        rw [inV_nat]
        by_cases e : i ∈ t_
        · rw [decide_eq_true e]
          refine iteT ⟨_, rfl, _, by rw [upd_ne nDT]; exact hD2', ?_, same_upd s3 hD2, ?_⟩
          · rw [List.length_map]
            have := handsF_len t_ cs i
            exact len_lt (by omega)
          · rw [upd_same, handsF_in e, List.map_append]
            rfl
        · rw [decide_eq_false e]
          refine iteF ⟨s3, ?_⟩
          rw [upd_ne nDT, handsF_out e]
          exact hD2'
      rintro H2 ⟨s2, hD2'⟩
      rw [List.length_map] at hD2'
      refine ⟨D2, _, rfl, Rd.of hD2', _, _, rfl, rfl, ?_⟩
      rw [handsF_all k2]
      exact q' _ (s1H.trans s2)
    | rest s m r =>
      obtain ⟨b1, h1, h2⟩ := hb
      obtain ⟨k1, kr, km⟩ := hk
      have hk := k1
      refine ⟨_, rfl, b, _, _, _, rfl, rfl, Rd.of h1, at_nat (j := 0) rfl, ?_⟩
      refine ⟨_, rfl, rfl, _, rfl, ifW (by decide +kernel) ?_⟩
      refine ⟨_, rfl, (by show 2 ≤ sizeLine; decide), fun t ht => ?_⟩
      have s1 := same_new (o := .tup [.str "both", .str "either"]) ht
      refine ⟨t, _, rfl, .inr (Rd.of upd_same), rfl, rfl, _, rfl, ifW (by decide +kernel) ?_⟩
      refine ⟨_, rfl, a, _, rfl, SqT.of (s1 _ _ ha), fun D hD => lc_it walk_enumT (fun i H' => Same (upd H t (.tup [.str "both", .str "either"])) H' ∧ H' D = some (.lst ((handsF s cs i).map V.int)))
        ⟨same_new hD, upd_same⟩ (fun i H' _ h => SqT.of ((s1.trans h.1) _ _ ha)) ?_ ?_⟩
      · rintro i x H2 H2' hi ⟨s2, hD2'⟩ ⟨T, x1, p, rfl, hT, rfl, e1, e2⟩
        have hi' : i < cs.length := by rwa [List.length_map] at hi
        have e2 : (cs.map V.int)[i]? = some p := e2
        rw [get_int hi'] at e2
        obtain rfl : V.int (cs.getD i 0) = p := Option.some.inj e2
        obtain rfl : V.int (i : Int) = x1 := Option.some.inj e1
        have s3 := s2.trans (same_new (o := .tup [.int (i : Int), .int (cs.getD i 0)]) hT)
        have nDT : D ≠ T := fun e => by rw [← e, hD2'] at hT; cases hT
        refine ⟨T, _, rfl, Rd.of upd_same, rfl, _, _, rfl, _, _, rfl, rfl, rfl, _, rfl, _, rfl, b, _, _, _, rfl, rfl, Rd.of ((s1.trans s3) _ _ h1), at_nat (j := 1) rfl, b1, _, rfl, .inr (Rd.of ((s1.trans s3) _ _ h2)), rfl, flat_nat _, _, rfl, ?_⟩
        show if inV (V.int (i : Int)) (nV s) = true then _ else _
        rw [inV_nat]
        by_cases e : i ∈ s
        · rw [decide_eq_true e]
          refine iteT ⟨_, rfl, _, by rw [upd_ne nDT]; exact hD2', ?_, same_upd s3 hD, ?_⟩
          · rw [List.length_map]
            have := handsF_len s cs i
            exact len_lt (by omega)
          · rw [upd_same, handsF_in e, List.map_append]
            rfl
        · rw [decide_eq_false e]
          refine iteF ⟨s3, ?_⟩
          rw [upd_ne nDT, handsF_out e]
          exact hD2'
      rintro H1 ⟨sH, hD1⟩
      rw [List.length_map] at hD1
      refine ⟨D, _, rfl, Rd.of hD1, ?_⟩
      rw [handsF_all hk]
      refine ⟨_, rfl, rfl, _, rfl, ifW (by decide +kernel) ?_⟩
      refine ⟨_, rfl, rfl, _, rfl, ifW (by decide +kernel) ?_⟩
      have h1H := (s1.trans sH) _ _ h1
      refine ⟨_, rfl, _, rfl, b, _, _, _, rfl, rfl, Rd.of h1H, at_nat (j := 3) rfl, _, _, rfl, rfl, _, rfl, b, _, _, _, rfl, rfl, Rd.of h1H, at_nat (j := 2) rfl, _, _, rfl, rfl, (by show 0 < m; omega), rfl, ?_⟩
      have e : decide (V.int ((handsOf s cs - r) % m) = V.int 0) = decide (handsOf s cs % m = r) := by
        refine decide_eq_decide.mpr ⟨fun z => ?_, fun z => ?_⟩
        · injection z with z
          have := Int.emod_eq_emod_iff_emod_sub_eq_zero.mpr z
          rw [Int.emod_eq_of_lt kr km] at this
          exact this
        · have : handsOf s cs % m = r % m := by rw [Int.emod_eq_of_lt kr km]; exact z
          rw [Int.emod_eq_emod_iff_emod_sub_eq_zero.mp this]
      show Q (V.bl (decide (V.int ((handsOf s cs - r) % m) = V.int 0))) H1
      rw [e]
      exact q' _ (s1.trans sH)
    | nt q =>
      obtain ⟨b1, h1, h2⟩ := hb
      have hd' : q.dp < d := by
        have : q.dp + 1 < d + 1 := hd
        omega
      refine ⟨_, rfl, b, _, _, _, rfl, rfl, Rd.of h1, at_nat (j := 0) rfl, ?_⟩
      refine ⟨_, rfl, rfl, _, rfl, ifY (by decide +kernel) ?_⟩
      refine ⟨_, rfl, b, _, _, _, rfl, rfl, Rd.of h1, at_nat (j := 1) rfl, _, rfl, b1, a, q, cs, rfl, hd', hk, hc, h2, ha, fun H' sH => ?_⟩
      exact ⟨_, rfl, q' _ sH⟩
    | both p q =>
      obtain ⟨b1, b2, h1, h2, h3⟩ := hb
      obtain ⟨k1, k2⟩ := hk
      have hd' : p.dp < d ∧ q.dp < d := by
        have : max p.dp q.dp + 1 < d + 1 := hd
        omega
      refine ⟨_, rfl, b, _, _, _, rfl, rfl, Rd.of h1, at_nat (j := 0) rfl, ?_⟩
      refine ⟨_, rfl, rfl, _, rfl, ifW (by decide +kernel) ?_⟩
      refine ⟨_, rfl, (by show 2 ≤ sizeLine; decide), fun t ht => ?_⟩
      have s1 := same_new (o := .tup [.str "both", .str "either"]) ht
      refine ⟨t, _, rfl, .inr (Rd.of upd_same), rfl, rfl, _, rfl, ifY (by decide +kernel) ?_⟩
      refine ⟨_, rfl, _, rfl, b, _, rfl, Rd.of (s1 _ _ h1), fun hw => absurd hw (show ¬ (HT.sIx 3 0 (some 1) = 0 ∧ HT.sIx 3 3 none = 3) by decide), fun _ u hu => ?_⟩
      have s2 := s1.trans (same_new (o := .tup [.ref b1, .ref b2]) hu)
      have hu1 : upd (upd H t (.tup [.str "both", .str "either"])) u (.tup [.ref b1, .ref b2]) u = some (.tup [.ref b1, .ref b2]) := upd_same
      refine ⟨u, rfl, ⟨_, SqT.of upd_same⟩, fun D hD => lc_tup (K := K) (a := u) (xs := [.ref b1, .ref b2]) (fun i H' => Same (upd (upd H t (.tup [.str "both", .str "either"])) u (.tup [.ref b1, .ref b2])) H' ∧ H' D = some (.lst (([p.truth cs, q.truth cs].take i).map V.bl)))
        ⟨same_new hD, upd_same⟩ (fun i H' _ h => SqT.of (h.1 _ _ hu1)) ?_ ?_⟩
      · rintro i x H3 hx ⟨s3, hD3⟩
        have s23 := s2.trans s3
        match i, hx with
        | 0, hx =>
          obtain rfl : V.ref b1 = x := Option.some.inj hx
          refine ⟨rfl, _, rfl, _, rfl, b1, a, p, cs, rfl, hd'.1, k1, hc, h2.mono (tst s23), s23 _ _ ha, fun H4 s4 => ?_⟩
          exact ⟨_, s4 _ _ hD3, by show 0 < sizeLine; decide, same_upd (s3.trans s4) hD, upd_same⟩
        | 1, hx =>
          obtain rfl : V.ref b2 = x := Option.some.inj hx
          refine ⟨rfl, _, rfl, _, rfl, b2, a, q, cs, rfl, hd'.2, k2, hc, h3.mono (tst s23), s23 _ _ ha, fun H4 s4 => ?_⟩
          exact ⟨_, s4 _ _ hD3, by show 1 < sizeLine; decide, same_upd (s3.trans s4) hD, upd_same⟩
        | i + 2, hx => exact absurd hx (by simp)
      rintro H1 ⟨sH, hD2⟩
      have hD2 : H1 D = some (.lst [.bl (p.truth cs), .bl (q.truth cs)]) := hD2
      have s12 := s2.trans sH
      refine ⟨_, rfl, rfl, _, rfl, ifY (by decide +kernel) ?_⟩
      refine ⟨_, rfl, D, _, _, _, rfl, rfl, Rd.of hD2, at_nat (j := 0) rfl, _, rfl, ?_⟩
      have q2 : ∀ H', Same H H' → Q (.bl (p.truth cs && q.truth cs)) H' := q'
      refine ite2 (fun hp => ?_) (fun hp => ?_)
      · rw [hp] at q2
        exact ⟨_, rfl, D, _, _, _, rfl, rfl, Rd.of hD2, at_nat (j := 1) rfl, q2 _ s12⟩
      · rw [Bool.eq_false_iff.mpr hp] at q2
        exact q2 _ s12
    | either p q =>
      obtain ⟨b1, b2, h1, h2, h3⟩ := hb
      obtain ⟨k1, k2⟩ := hk
      have hd' : p.dp < d ∧ q.dp < d := by
        have : max p.dp q.dp + 1 < d + 1 := hd
        omega
      refine ⟨_, rfl, b, _, _, _, rfl, rfl, Rd.of h1, at_nat (j := 0) rfl, ?_⟩
      refine ⟨_, rfl, rfl, _, rfl, ifW (by decide +kernel) ?_⟩
      refine ⟨_, rfl, (by show 2 ≤ sizeLine; decide), fun t ht => ?_⟩
      have s1 := same_new (o := .tup [.str "both", .str "either"]) ht
      refine ⟨t, _, rfl, .inr (Rd.of upd_same), rfl, rfl, _, rfl, ifY (by decide +kernel) ?_⟩
      refine ⟨_, rfl, _, rfl, b, _, rfl, Rd.of (s1 _ _ h1), fun hw => absurd hw (show ¬ (HT.sIx 3 0 (some 1) = 0 ∧ HT.sIx 3 3 none = 3) by decide), fun _ u hu => ?_⟩
      have s2 := s1.trans (same_new (o := .tup [.ref b1, .ref b2]) hu)
      have hu1 : upd (upd H t (.tup [.str "both", .str "either"])) u (.tup [.ref b1, .ref b2]) u = some (.tup [.ref b1, .ref b2]) := upd_same
      refine ⟨u, rfl, ⟨_, SqT.of upd_same⟩, fun D hD => lc_tup (K := K) (a := u) (xs := [.ref b1, .ref b2]) (fun i H' => Same (upd (upd H t (.tup [.str "both", .str "either"])) u (.tup [.ref b1, .ref b2])) H' ∧ H' D = some (.lst (([p.truth cs, q.truth cs].take i).map V.bl)))
        ⟨same_new hD, upd_same⟩ (fun i H' _ h => SqT.of (h.1 _ _ hu1)) ?_ ?_⟩
      · rintro i x H3 hx ⟨s3, hD3⟩
        have s23 := s2.trans s3
        match i, hx with
        | 0, hx =>
          obtain rfl : V.ref b1 = x := Option.some.inj hx
          refine ⟨rfl, _, rfl, _, rfl, b1, a, p, cs, rfl, hd'.1, k1, hc, h2.mono (tst s23), s23 _ _ ha, fun H4 s4 => ?_⟩
          exact ⟨_, s4 _ _ hD3, by show 0 < sizeLine; decide, same_upd (s3.trans s4) hD, upd_same⟩
        | 1, hx =>
          obtain rfl : V.ref b2 = x := Option.some.inj hx
          refine ⟨rfl, _, rfl, _, rfl, b2, a, q, cs, rfl, hd'.2, k2, hc, h3.mono (tst s23), s23 _ _ ha, fun H4 s4 => ?_⟩
          exact ⟨_, s4 _ _ hD3, by show 1 < sizeLine; decide, same_upd (s3.trans s4) hD, upd_same⟩
        | i + 2, hx => exact absurd hx (by simp)
      rintro H1 ⟨sH, hD2⟩
      have hD2 : H1 D = some (.lst [.bl (p.truth cs), .bl (q.truth cs)]) := hD2
      have s12 := s2.trans sH
      refine ⟨_, rfl, rfl, _, rfl, ifW (by decide +kernel) ?_⟩
      refine ⟨_, rfl, D, _, _, _, rfl, rfl, Rd.of hD2, at_nat (j := 0) rfl, _, rfl, ?_⟩
      have q2 : ∀ H', Same H H' → Q (.bl (p.truth cs || q.truth cs)) H' := q'
      refine ite2 (fun hp => ?_) (fun hp => ?_)
      · rw [hp] at q2
        exact q2 _ s12
      · rw [Bool.eq_false_iff.mpr hp] at q2
        exact ⟨_, rfl, D, _, _, _, rfl, rfl, Rd.of hD2, at_nat (j := 1) rfl, q2 _ s12⟩
end
end PB
namespace PB
open PySem PySem.Spec PyProof.Rows L2
theorem fkv_upd {f : List Int → V} {ks : List (List Int)} {k : List Int} {v : V} (h : k ∈ ks) : putK (fkv f ks) (ck k) v = fkv (fun x => if x = k then v else f x) ks := by
  unfold putK
  have ha : ((fkv f ks).any fun kv => decide (kv.1 = ck k)) = true := by
    rw [List.any_eq_true]
    exact ⟨(ck k, f k), List.mem_map.mpr ⟨k, h, rfl⟩, decide_eq_true rfl⟩
  rw [if_pos ha]
  unfold fkv
  rw [List.map_map]
  refine List.map_congr_left fun x _ => ?_
  show (if ck x = ck k then (ck x, v) else (ck x, f x)) = (ck x, if x = k then v else f x)
  by_cases e : x = k
  · rw [if_pos (by rw [e]), if_pos e]
  · rw [if_neg (fun z => e (ck_inj z)), if_neg e]
/-- a list of crowds at e -/
def CrowdsAt (H : Hp) (e : Addr) (l : List (List Int)) : Prop := ∃ ts, H e = some (.lst (ts.map V.ref)) ∧ TupsAt H ts l
theorem CrowdsAt.mono {H H' : Hp} {e : Addr} {l : List (List Int)} (G : CrowdsAt H e l) (t : Tst H H') (h : ∀ xs, H e = some (.lst xs) → H' e = some (.lst xs)) : CrowdsAt H' e l := by
  obtain ⟨ts, h1, h2⟩ := G
  exact ⟨ts, h _ h1, tups_mono h2 t⟩
/-- the law's own graph -/
structure AftAt (H : Hp) (g : Addr) (R : Rule) (ks : List (List Int)) : Prop where
  ex : ∃ f : List Int → V, H g = some (.dT (fkv f ks)) ∧ ∀ k ∈ ks, ∃ e, f k = .ref e ∧ CrowdsAt H e (nexts R k)
theorem AftAt.mono {H H' : Hp} {g : Addr} {R : Rule} {ks : List (List Int)} (G : AftAt H g R ks) (s : Same H H') : AftAt H' g R ks := by
  obtain ⟨f, h1, h2⟩ := G.ex
  exact ⟨f, s _ _ h1, fun k hk => let ⟨e, h3, h4⟩ := h2 k hk; ⟨e, h3, h4.mono (tst s) fun xs h => s _ _ h⟩⟩
/-! ### while it is laid -/
structure AfI (H0 : Hp) (R : Rule) (c : List Int) (fa la : Addr) (f : List Int → V) (ks ls : List (List Int)) (lt : List Addr) (H : Hp) : Prop where
  same : Same H0 H
  line : H la = some (.lst (lt.map V.ref))
  tups : TupsAt H lt ls
  found : H fa = some (.dT (fkv f ks))
  nd : ks.Nodup
  ndl : ls.Nodup
  sub : ∀ k ∈ ls, k ∈ ks
  come : ∀ k ∈ ks, Comes R c k
  cin : c ∈ ks
theorem AfI.mono {H0 H H' : Hp} {R : Rule} {c : List Int} {fa la : Addr} {f : List Int → V} {ks ls : List (List Int)} {lt : List Addr} (G : AfI H0 R c fa la f ks ls lt H) (s : Same H H') : AfI H0 R c fa la f ks ls lt H' :=
  ⟨G.same.trans s, s _ _ G.line, tups_mono G.tups (tst s), s _ _ G.found, G.nd, G.ndl, G.sub, G.come, G.cin⟩
/-- those done: their lists stand, all in them is found -/
def Done (H : Hp) (R : Rule) (fa la : Addr) (f : List Int → V) (ks : List (List Int)) (k : List Int) : Prop := ∃ e, f k = .ref e ∧ e ≠ la ∧ CrowdsAt H e (nexts R k) ∧ ∀ d ∈ nexts R k, d ∈ ks
theorem Done.mono {H H' : Hp} {R : Rule} {fa la : Addr} {f : List Int → V} {ks : List (List Int)} {k : List Int} (G : Done H R fa la f ks k) (s : Same H H') : Done H' R fa la f ks k := by
  obtain ⟨e, h1, h2, h3, h4⟩ := G
  exact ⟨e, h1, h2, h3.mono (tst s) fun xs h => s _ _ h, h4⟩
theorem drop_last_snoc {α : Type} {l : List α} (h : l ≠ []) : ∃ x, l = l.dropLast ++ [x] := ⟨l.getLast h, (List.dropLast_concat_getLast h).symm⟩
theorem tups_last {H : Hp} {b : Addr} {k : List Int} : ∀ {lt : List Addr} {ls : List (List Int)}, lt.length = ls.length → TupsAt H (lt ++ [b]) (ls ++ [k]) → TupsAt H lt ls ∧ H b = some (iT k)
  | [], [], _, .cons x _ => ⟨.nil, x⟩
  | [], _ :: _, h, _ => by cases h
  | _ :: _, [], h, _ => by cases h
  | _ :: lt, _ :: ls, h, .cons y z => by
    obtain ⟨i1, i2⟩ := tups_last (lt := lt) (ls := ls) (by simpa using h) z
    exact ⟨.cons y i1, i2⟩
section
variable {P : Program} {w : World} {K : PySem.W.Frag} {mg : Str → Option Value} {base : Heap}
def spLAfter : Sp := fun vs H Q _ => ∃ (r a : Addr) (R : Rule) (c : List Int), vs = [.ref r, .ref a] ∧ RuleAt H r R ∧ Few R c ∧ H a = some (iT c) ∧ ∀ H' g ks, Same H H' → AftAt H' g R ks → AllOf R c ks → Q (.ref g) H'
theorem d_l_after (Z : BN mg) (A : At K mg "_law_after" s_l_after ["_law_rule_here", "_law_crowd_here"]) (D_l_can : Def P w K mg base 2 "_law_can" ["_law_rule_here", "_law_crowd_here"] [] spLCan) (D_l_behind : Def P w K mg base 1 "_law_behind" ["_law_crowd_here", "_law_meeting"] [] spLBehind) :
    Def P w K mg base 3 "_law_after" ["_law_rule_here", "_law_crowd_here"] [] spLAfter := by
  refine A.def sc_l_after (fun vs H Q E h => ?_) (fun f cdv A outer s H vs Q E hr h => ?_)
  · obtain ⟨r, a, R, c, rfl, _⟩ := h
    rfl
  obtain ⟨r, a, R, c, rfl, hR, F, ha, q⟩ := h
  obtain ⟨st, m, y, ms, r0, r1, r2, r3, r4⟩ := hR.ex
  have hu := hu_of hr
  refine ⟨_, (pss_cons (ps_set (i := 2) sc_l_after.nd rfl (Or.inl rfl) (pe_dispT hu (pv 1) pe_non))
    (pss_cons (ps_set (i := 3) sc_l_after.nd rfl (Or.inl rfl) (pe_lst (pa_cons (pv 1) pa_nil)))
    (pss_cons (ps_while PassesOwn.never (pt_cmpR (op_neNil hr) (pv 3) (pe_lst pa_nil) (by first | exact nomark _ | rfl)) (pss_cons (ps_set (i := 4) sc_l_after.nd rfl (Or.inr rfl) (pe_bm0 PySem.F.plainAttrs_list PySem.F.slot_list_pop PySem.F.type_list_pop mt_pop (pv 3)))
      (pss_cons (ps_dput hu (pv 2) (pv 4) (pe_lc (own := [("_law_number", 6)]) (g := (gName 6)) rfl sc_l_after.nd (pi_list (pe_def D_l_can hr rfl (pa_cons (pv 0) (pa_cons (pv 4) pa_nil)))) (blkOk_by (own := [("_law_number", 6)]) (N := N_l_after) (sc := defScope s_l_after) (by decide +kernel)) (fun _ _ _ _ _ => (pg_name (i := 6) sc_l_after.nd rfl (Or.inl rfl))) (fun _ _ _ _ _ => pts_nil) (fun _ _ _ _ _ => (pe_def D_l_behind hr rfl (pa_cons (pv 4) (pa_cons (pe_ix ix_tup0 (pe_ix ix_tup0 (pv 0) pe_int (fun _ _ => rfl)) (pv 6) (fun _ _ => rfl)) pa_nil))))) rfl)
      (pss_one (ps_for PassesOwn.never rfl (pi_list (pe_dget hu (pv 2) (pv 4) (fun _ _ => rfl))) (pg_name (i := 5) sc_l_after.nd rfl (Or.inl rfl))
        (pss_one (ps_if (pt_cmp (pc_dnotin hu (pv 5) (pv 2))) (pss_cons (ps_dput hu (pv 2) (pv 5) pe_non rfl)
          (pss_one (ps_expr (pe_bm PySem.F.plainAttrs_list PySem.F.slot_list_append PySem.F.type_list_append mt_append (pv 3) (pa_cons (pv 5) pa_nil))))) pss_nil)))))))
    (pss_one (ps_ret (pv 2)))))), ?_⟩
  intro fa hfa
  have s0 : Same H (upd H fa (.dT [])) := same_new hfa
  refine ⟨_, rfl, upd_same, a, ck c, rfl, by rw [ck_kV]; exact s0 _ _ ha, ?_⟩
  have s1 : Same H (upd (upd H fa (.dT [])) fa (.dT [(ck c, .non)])) := same_upd s0 hfa
  refine ⟨_, rfl, (by show 1 ≤ sizeLine; decide), fun la hla => ?_⟩
  have hlaH := free_of s1 hla
  have s2 := same_upd (o := .lst [.ref a]) s1 hlaH
  have nlf : la ≠ fa := fun z => by rw [z, upd_same] at hla; cases hla
  refine ⟨fun mm σ H' => ∃ g ks ls lt v4 v5, σ = [some (.ref r), some (.ref a), some (.ref fa), some (.ref la), v4, v5, none] ∧ AfI H R c fa la g ks ls lt H' ∧ (∀ k ∈ ks, k ∉ ls → Done H' R fa la g ks k) ∧ mm + ks.length = 36 + ls.length,
    ⟨36, fun _ => .non, [c], [c], [a], none, none, rfl, ?_, fun k hk hn => absurd hk hn, rfl⟩, ?_⟩
  · refine ⟨s2, by rw [upd_same]; rfl, .cons (s2 _ _ ha) .nil, by rw [upd_ne nlf.symm, upd_same]; rfl, by simp, by simp, fun k hk => hk, fun k hk => ?_, List.mem_cons_self⟩
    rw [List.mem_singleton.mp hk]
    exact .refl
  rintro mm σ H1 ⟨g, ks, ls, lt, v4, v5, rfl, G, hdone, hmm⟩
  have hlt : lt.length = ls.length := Paired.length G.tups
  have k35 := F.few G.nd G.come
  refine ⟨_, rfl, Nat.zero_le _, fun nl hnl => ?_⟩
  have s3 : Same H1 (upd H1 nl (.lst [])) := same_new hnl
  have G1 := G.mono s3
  refine ⟨la, nl, lt, ls, rfl, rfl, G1.line, upd_same, G1.tups, _, rfl, ?_⟩
  refine ite2 (fun hc => ?_) (fun hc => ?_)
  · -- a turn
    have hne : ls ≠ [] := fun z => by
      subst z
      cases lt with
      | nil => exact absurd hc (by decide)
      | cons _ _ => cases hlt
    obtain ⟨k, hk⟩ := drop_last_snoc hne
    have hnt : lt ≠ [] := fun z => by
      subst z
      exact hne (List.length_eq_zero_iff.mp hlt.symm)
    obtain ⟨b, hb⟩ := drop_last_snoc hnt
    generalize hls : ls.dropLast = ls0 at hk
    generalize hlts : lt.dropLast = lt0 at hb
    subst hk hb
    have hl0 : lt0.length = ls0.length := by
      rw [List.length_append, List.length_append] at hlt
      have : lt0.length + 1 = ls0.length + 1 := hlt
      omega
    obtain ⟨ht0, hbk1⟩ := tups_last hl0 G1.tups
    have hkk : k ∈ ks := G.sub k (List.mem_append_right _ List.mem_cons_self)
    have hk0 : k ∉ ls0 := fun z => (List.nodup_append.mp G.ndl).2.2 k z k List.mem_cons_self rfl
    have Fk := F.comes (G.come k hkk)
    obtain ⟨hn, hn1, hn4, CRk⟩ := Fk.ex
    refine ⟨fun σ' H' => ∃ g ks ls lt v4 v5, σ' = [some (.ref r), some (.ref a), some (.ref fa), some (.ref la), v4, v5, none] ∧ AfI H R c fa la g ks ls lt H' ∧ (∀ k ∈ ks, k ∉ ls → Done H' R fa la g ks k) ∧ (mm - 1) + ks.length = 36 + ls.length, ?_, ?_⟩
    · rintro σ' H' h
      have : ks.length ≤ 35 := k35
      rw [List.length_append] at hmm
      have : mm + ks.length = 36 + (ls0.length + 1) := hmm
      exact ⟨mm - 1, by omega, h⟩
    -- here = line.pop()
    refine ⟨_, rfl, .inl ⟨rfl, _, SqL.of G1.line⟩, la, _, .ref b, rfl, rfl, G1.line, ?_, ?_⟩
    · rw [List.length_map, List.length_append, List.map_append]
      rw [List.getElem?_append_right (by rw [List.length_map]; exact Nat.le_refl _)]
      rw [List.length_map]
      show ([V.ref b] : List V)[lt0.length + 1 - 1 - lt0.length]? = _
      rw [show lt0.length + 1 - 1 - lt0.length = 0 by omega]
      rfl
    have epop : ((lt0 ++ [b]).map V.ref).dropLast = lt0.map V.ref := by
      rw [List.map_append]
      exact List.dropLast_concat
    rw [epop]
    have tl : Tst (upd H1 nl (.lst [])) (upd (upd H1 nl (.lst [])) la (.lst (lt0.map V.ref))) := tst_lst G1.line
    have nfl : fa ≠ la := nlf.symm
    have keepE : ∀ e, e ≠ la → ∀ xs, upd H1 nl (.lst []) e = some (.lst xs) → upd (upd H1 nl (.lst [])) la (.lst (lt0.map V.ref)) e = some (.lst xs) := fun e he xs h => by rw [upd_ne he]; exact h
    have G2 : AfI H R c fa la g ks ls0 lt0 (upd (upd H1 nl (.lst [])) la (.lst (lt0.map V.ref))) :=
      ⟨same_upd G1.same hlaH, upd_same, tups_mono ht0 tl, by rw [upd_ne nfl]; exact G1.found, G.nd, (List.nodup_append.mp G.ndl).1, fun x hx => G.sub x (List.mem_append_left _ hx), G.come, G.cin⟩
    have hbk2 : upd (upd H1 nl (.lst [])) la (.lst (lt0.map V.ref)) b = some (iT k) := tl _ _ hbk1
    have hd2 : ∀ x ∈ ks, x ∉ ls0 → x ≠ k → Done (upd (upd H1 nl (.lst [])) la (.lst (lt0.map V.ref))) R fa la g ks x := fun x hx hx0 hxk => by
      obtain ⟨e, e1, e2, e3, e4⟩ := (hdone x hx (fun z => (List.mem_append.mp z).elim hx0 fun z => hxk (List.mem_singleton.mp z))).mono s3
      exact ⟨e, e1, e2, e3.mono tl (keepE e e2), e4⟩
    generalize upd (upd H1 nl (.lst [])) la (.lst (lt0.map V.ref)) = H2 at G2 hbk2 hd2
    clear keepE tl hbk1 ht0 G1 s3 hdone
    -- found[here] = [..]
    have nDla : ∀ {H' D}, Same H2 H' → H' D = none → D ≠ la := fun {H' D} s h z => by
      rw [z, s _ _ G2.line] at h
      cases h
    refine ⟨_, rfl, _, rfl, r, b, R, k, rfl, hR.mono (tst G2.same), F.ok, hbk2, Fk.len, CRk.pos, fun H3 cn s3 hcn => ?_⟩
    refine ⟨cn, rfl, ⟨_, SqL.of hcn⟩, fun D hD => lc_it walk_list (fun j H' => Same H3 H' ∧ CrowdsAt H' D ((nexts R k).take j))
      ⟨same_new hD, [], upd_same, .nil⟩ (fun j H' _ e => SqL.of (e.1 _ _ hcn)) ?_ ?_⟩
    · rintro j x H4 H4' hj ⟨s4, us, hL4, hus⟩ ⟨rfl, hx⟩
      have hj' : j < (canL R k).length := by rwa [List.length_map] at hj
      rw [get_nat hj'] at hx
      obtain rfl := Option.some.inj hx
      generalize hcc : (canL R k).getD j 0 = cc
      have hcm : cc ∈ canL R k := by
        rw [← hcc, List.getD_eq_getElem?_getD, List.getElem?_eq_getElem hj']
        exact List.getElem_mem hj'
      obtain ⟨hc1, hc2⟩ := mem_canL.mp hcm
      obtain ⟨p, hp1, hp2⟩ := mts_get r3 hc1
      have hix : atI (ms.map V.ref) (cc : Int) = some (.ref p) := at_nat (by rw [List.getElem?_map, hp1]; rfl)
      have s24 := s3.trans s4
      have s04 := G2.same.trans s24
      refine ⟨rfl, _, rfl, _, rfl, r, _, _, _, rfl, rfl, Rd.of (s04 _ _ r0), at_nat (j := 2) rfl, _, rfl, m, _, _, _, rfl, rfl, Rd.of (s04 _ _ r2), hix, ?_⟩
      refine ⟨b, p, k, R.mt cc, rfl, s24 _ _ hbk2, s04 _ _ hp2, by rw [Fk.len]; exact F.ok.mt _ (mt_mem hc1), CRk.pos, fun _ H5 u s5 _ hu5 => ?_, fun z => absurd hc2 (by rw [z]; decide)⟩
      have hL5 := s5 _ _ hL4
      have t5 := (tst s5).trans (tst_lst (o := .lst (us.map V.ref ++ [.ref u])) hL5)
      have ul : us.length = _ := Paired.length hus
      rw [List.length_take] at ul
      refine ⟨_, hL5, ?_, same_upd (s4.trans s5) hD, us ++ [u], by rw [upd_same, List.map_append]; rfl, ?_⟩
      · rw [List.length_map]
        have c1 : (canL R k).length ≤ R.meets.length := canI_len R k R.meets.length
        have c2 := F.ok.ml
        exact len_lt (by omega)
      · have e1 : (nexts R k).take (j + 1) = (nexts R k).take j ++ [behind k (R.mt cc)] := by
          rw [List.take_add_one]
          congr 1
          unfold nexts
          rw [List.getElem?_map, List.getElem?_eq_getElem hj', ← hcc, List.getD_eq_getElem?_getD, List.getElem?_eq_getElem hj']
          rfl
        rw [e1]
        exact tups_snoc (tups_mono hus t5) (tst_lst (o := .lst (us.map V.ref ++ [.ref u])) hL5 _ _ hu5)
    rintro H4 ⟨s4, ts, hD4, hts⟩
    have nl' : (nV (canL R k)).length = (nexts R k).length := by unfold nexts; rw [List.length_map, List.length_map]
    rw [nl', List.take_length] at hts
    have s24 := s3.trans s4
    have G4 := G2.mono s24
    have hb4 := s24 _ _ hbk2
    have nDl : D ≠ la := nDla s3 hD
    refine ⟨_, rfl, _, rfl, fa, _, rfl, dput_t G4.found hb4 (by rw [fkv_len]; exact len_lt (by omega)), ?_⟩
    rw [fkv_upd hkk]
    have t4 : Tst H4 (upd H4 fa (.dT (fkv (fun x => if x = k then .ref D else g x) ks))) := tst_dT G4.found
    have lk : ∀ {x : Addr} {xs : List V}, H4 x = some (.lst xs) → upd H4 fa (.dT (fkv (fun x => if x = k then .ref D else g x) ks)) x = some (.lst xs) := fun {x xs} h => by
      rw [upd_ne (ne_kind h G4.found (fun z => nomatch z))]
      exact h
    have G5 : AfI H R c fa la (fun x => if x = k then .ref D else g x) ks ls0 lt0 (upd H4 fa (.dT (fkv (fun x => if x = k then .ref D else g x) ks))) :=
      ⟨same_upd G4.same hfa, lk G4.line, tups_mono G4.tups t4, upd_same, G.nd, G2.ndl, G2.sub, G.come, G.cin⟩
    have hb5 := t4 _ _ hb4
    have hd5 : ∀ x ∈ ks, x ∉ ls0 → x ≠ k → Done (upd H4 fa (.dT (fkv (fun x => if x = k then .ref D else g x) ks))) R fa la (fun x => if x = k then .ref D else g x) ks x := fun x hx hx0 hxk => by
      obtain ⟨e, e1, e2, e3, e4⟩ := (hd2 x hx hx0 hxk).mono s24
      exact ⟨e, by show (if x = k then _ else g x) = _; rw [if_neg hxk]; exact e1, e2, e3.mono t4 fun xs h => lk h, e4⟩
    have hC5 : CrowdsAt (upd H4 fa (.dT (fkv (fun x => if x = k then .ref D else g x) ks))) D (nexts R k) := ⟨ts, lk hD4, tups_mono hts t4⟩
    generalize upd H4 fa (.dT (fkv (fun x => if x = k then .ref D else g x) ks)) = H5 at G5 hb5 hd5 hC5
    clear lk t4 hts
    obtain ⟨ts, hD5, hts⟩ := hC5
    -- for one in found[here]
    refine ⟨_, rfl, _, rfl, fa, _, rfl, dget_t (Rd.of G5.found) hb5 (v := some (.ref D)) (by rw [fkv_val, if_pos hkk, if_pos rfl]), ?_⟩
    refine ⟨D, rfl, ⟨_, SqL.of hD5⟩, for_it walk_list (fun i σ H' => ∃ g6 t lt6 v5, σ = [some (.ref r), some (.ref a), some (.ref fa), some (.ref la), some (.ref b), v5, none] ∧ AfI H R c fa la g6 (ks ++ t) (ls0 ++ t) lt6 H' ∧ H' D = some (.lst (ts.map V.ref)) ∧ TupsAt H' ts (nexts R k) ∧ g6 k = .ref D ∧
      (∀ x ∈ ks, x ∉ ls0 → x ≠ k → Done H' R fa la g6 (ks ++ t) x) ∧ (∀ j, j < i → ∀ x, (nexts R k)[j]? = some x → x ∈ ks ++ t)) ⟨fun x => if x = k then .ref D else g x, [], lt0, _, rfl, by rw [List.append_nil, List.append_nil]; exact G5, hD5, hts, if_pos rfl, by rw [List.append_nil]; exact hd5, fun j hj => absurd hj (by omega)⟩
      (fun i σ H' _ ⟨_, _, _, _, _, _, e, _⟩ => SqL.of e) ?_ ?_⟩
    · rintro i x σ H6 H6' hi ⟨g6, t, lt6, v5, rfl, G6, hD6, ht6, hg6, hd6, hc6⟩ ⟨rfl, hx⟩
      have hi' : i < ts.length := by rwa [List.length_map] at hi
      obtain ⟨u, hui⟩ : ∃ T, ts[i]? = some T := ⟨ts[i], List.getElem?_eq_getElem hi'⟩
      obtain rfl := ref_at hx hui
      obtain ⟨d, hdi, hud⟩ := paired_getL (F := fun t (ns : List Int) => H6' t = some (.tup (ns.map V.int))) ht6 hui
      have l6 := F.few G6.nd G6.come
      have lt6l : lt6.length = (ls0 ++ t).length := Paired.length G6.tups
      refine ⟨_, rfl, _, rfl, fa, _, rfl, dget_t (Rd.of G6.found) hud rfl, _, rfl, ?_⟩
      rw [fkv_val]
      by_cases hd : d ∈ ks ++ t
      · rw [if_pos hd]
        refine iteF ⟨g6, t, lt6, _, rfl, G6, hD6, ht6, hg6, hd6, fun j hj x hxx => ?_⟩
        rcases Nat.lt_or_ge j i with z | z
        · exact hc6 j z x hxx
        · have : j = i := by omega
          subst this
          rw [hdi] at hxx
          rw [← Option.some.inj hxx]
          exact hd
      · rw [if_neg hd]
        have hnon : d ∉ ls0 ++ t := fun z => hd (by
          rcases List.mem_append.mp z with y | y
          · exact List.mem_append_left _ (G2.sub d y)
          · exact List.mem_append_right _ y)
        have eput : putK (fkv g6 (ks ++ t)) (ck d) .non = fkv (fun x => if x = d then .non else g6 x) ((ks ++ t) ++ [d]) := by
          rw [fkv_congr (g := fun x => if x = d then .non else g6 x) (fun x hx => by rw [if_neg (fun e => hd (by rw [← e]; exact hx))])]
          exact fkv_put hd (by rw [if_pos rfl])
        have t7 : Tst H6' (upd H6' fa (.dT (fkv (fun x => if x = d then .non else g6 x) ((ks ++ t) ++ [d])))) := tst_dT G6.found
        have lk7 : ∀ {x : Addr} {xs : List V}, H6' x = some (.lst xs) → upd H6' fa (.dT (fkv (fun x => if x = d then .non else g6 x) ((ks ++ t) ++ [d]))) x = some (.lst xs) := fun {x xs} h => by
          rw [upd_ne (ne_kind h G6.found (fun z => nomatch z))]
          exact h
        have ul := lk7 G6.line
        have t8 := t7.trans (tst_lst (o := .lst (lt6.map V.ref ++ [.ref u])) ul)
        refine iteT ⟨_, rfl, _, rfl, fa, _, rfl, dput_t G6.found hud (by rw [fkv_len]; exact len_lt (by omega)), ?_⟩
        rw [eput]
        have l6' : lt6.length ≤ 35 := by
          rw [lt6l]
          exact F.few G6.ndl fun x hx => G6.come x (G6.sub x hx)
        refine ⟨_, rfl, .inl ⟨rfl, _, SqL.of ul⟩, _, rfl, la, _, _, rfl, rfl, ul, by rw [List.length_map]; exact len_lt (by omega), ?_⟩
        have hdk : d ∈ nexts R k := List.mem_of_getElem? hdi
        have hkd : k ≠ d := fun e => hd (by rw [← e]; exact List.mem_append_left _ hkk)
        refine ⟨fun x => if x = d then .non else g6 x, t ++ [d], lt6 ++ [u], _, rfl, ⟨same_upd (same_upd G6.same hfa) hlaH, by rw [upd_same, List.map_append]; rfl, ?_, ?_, ?_, ?_, fun x hx => ?_, fun x hx => ?_, ?_⟩, ?_, tups_mono ht6 t8, ?_, fun x hx hx0 hxk => ?_, fun j hj x hxx => ?_⟩
        · rw [← List.append_assoc]
          exact tups_snoc (tups_mono G6.tups t8) (t8 _ _ hud)
        · rw [upd_ne nfl, upd_same, ← List.append_assoc]
        · rw [← List.append_assoc]
          exact nd_snoc' G6.nd hd
        · rw [← List.append_assoc]
          exact nd_snoc' G6.ndl hnon
        · rw [← List.append_assoc] at hx ⊢
          rcases List.mem_append.mp hx with z | z
          · exact List.mem_append_left _ (G6.sub x z)
          · exact List.mem_append_right _ z
        · rw [← List.append_assoc] at hx
          rcases List.mem_append.mp hx with z | z
          · exact G6.come x z
          · rw [List.mem_singleton.mp z]
            exact (G.come k hkk).step hdk
        · exact List.mem_append_left _ G.cin
        · rw [upd_ne nDl]
          exact lk7 hD6
        · show (if k = d then _ else g6 k) = _
          rw [if_neg hkd]
          exact hg6
        · obtain ⟨e, e1, e2, e3, e4⟩ := hd6 x hx hx0 hxk
          refine ⟨e, ?_, e2, e3.mono t8 fun xs h => by rw [upd_ne e2]; exact lk7 h, fun y hy => ?_⟩
          · show (if x = d then _ else g6 x) = _
            rw [if_neg (fun z => hd (by rw [← z]; exact List.mem_append_left _ hx))]
            exact e1
          · rw [← List.append_assoc]
            exact List.mem_append_left _ (e4 y hy)
        · rw [← List.append_assoc]
          rcases Nat.lt_or_ge j i with z | z
          · exact List.mem_append_left _ (hc6 j z x hxx)
          · have : j = i := by omega
            subst this
            rw [hdi] at hxx
            rw [← Option.some.inj hxx]
            exact List.mem_append_right _ List.mem_cons_self
    · rintro σ H6 ⟨g6, t, lt6, v5, rfl, G6, hD6, ht6, hg6, hd6, hc6⟩
      have tl6 : (ts.map V.ref).length = (nexts R k).length := by rw [List.length_map]; exact Paired.length hts
      rw [tl6] at hc6
      refine ⟨g6, ks ++ t, ls0 ++ t, lt6, _, _, rfl, G6, fun x hx hxl => ?_, ?_⟩
      · rcases List.mem_append.mp hx with z | z
        · by_cases e : x = k
          · subst e
            refine ⟨D, hg6, nDl, ⟨ts, hD6, ht6⟩, fun d hd => ?_⟩
            obtain ⟨j, hj⟩ := List.mem_iff_getElem?.mp hd
            exact hc6 j (List.getElem?_eq_some_iff.mp hj).1 d hj
          · exact hd6 x z (fun y => hxl (List.mem_append_left _ y)) e
        · exact absurd (List.mem_append_right _ z) hxl
      · rw [List.length_append, List.length_append]
        rw [List.length_append] at hmm
        have h1 : mm + ks.length = 36 + (ls0.length + 1) := hmm
        have : 1 ≤ mm := by omega
        omega
  · -- the end
    have hl0 : ls = [] := by
      cases ls with
      | nil => rfl
      | cons x t =>
        cases lt with
        | nil => cases hlt
        | cons _ _ => exact absurd rfl hc
    subst hl0
    refine ⟨_, rfl, q _ fa ks G1.same ⟨g, G1.found, fun k hk => ?_⟩ (allOf_closed G.nd G.cin G.come fun k hk d hd => ?_)⟩
    · obtain ⟨e, e1, _, e3, _⟩ := (hdone k hk (fun z => by cases z)).mono s3
      exact ⟨e, e1, e3⟩
    · obtain ⟨e, _, _, _, e4⟩ := hdone k hk (fun z => by cases z)
      exact e4 d hd
end
end PB
namespace PB
open PySem PySem.Spec PyProof.Rows L2
theorem fk_nth {f : List Int → V} {ks : List (List Int)} {i : Nat} {k : List L2.Key} {v : V} (h : (fkv f ks)[i]? = some (k, v)) : ∃ c, ks[i]? = some c ∧ k = ck c ∧ v = f c := by
  unfold fkv at h
  rw [List.getElem?_map] at h
  cases e : ks[i]? with
  | none => rw [e] at h; cases h
  | some c =>
    rw [e] at h
    injection h with h
    injection h with h1 h2
    exact ⟨c, rfl, h1.symm, h2.symm⟩
/-- the crowds that lead to one of gs, all of them -/
structure Led (R : Rule) (ks gs fs : List (List Int)) : Prop where
  nd : fs.Nodup
  sub : ∀ k ∈ fs, k ∈ ks
  all : ∀ k, k ∈ ks → (k ∈ fs ↔ Leads R (· ∈ gs) k)
section
variable {P : Program} {w : World} {K : PySem.W.Frag} {mg : Str → Option Value} {base : Heap}
def spLLeading : Sp := fun vs H Q _ => ∃ (g gl : Addr) (gt : List Addr) (R : Rule) (c : List Int) (ks gs : List (List Int)), vs = [.ref g, .ref gl] ∧ AftAt H g R ks ∧ Few R c ∧ AllOf R c ks ∧ H gl = some (.lst (gt.map V.ref)) ∧ TupsAt H gt gs ∧ gs.Nodup ∧ (∀ k ∈ gs, k ∈ ks) ∧
  ∀ H' p fs, Same H H' → H p = none → H' p = some (.dT (fkv seenV fs)) → Led R ks gs fs → Q (.ref p) H'
theorem d_l_leading (Z : BN mg) (A : At K mg "_law_leading" s_l_leading ["_law_after_here", "_law_some_here"]) : Def P w K mg base 1 "_law_leading" ["_law_after_here", "_law_some_here"] [] spLLeading := by
  refine A.def sc_l_leading (fun vs H Q E h => ?_) (fun f cdv A outer s H vs Q E hr h => ?_)
  · obtain ⟨g, gl, gt, R, c, ks, gs, rfl, _⟩ := h
    rfl
  obtain ⟨g, gl, gt, R, c, ks, gs, rfl, ⟨af, hg, haf⟩, F, AO, hgl, hgt, ngs, sgs, q⟩ := h
  have hu := hu_of hr
  have k35 : ks.length ≤ 35 := F.few AO.nd fun k hk => (AO.all k).mp hk
  have g35 : gs.length ≤ 35 := F.few ngs fun k hk => (AO.all k).mp (sgs k hk)
  refine ⟨_, (pss_cons (ps_set (i := 2) sc_l_leading.nd rfl (Or.inr rfl) (pe_callTy (cr_dictL rfl hr.units) (by rfl) Z.dict (by decide +kernel) (pa_cons (pe_lc (own := [("_law_crowd_here", 4)]) (g := (gName 4)) rfl sc_l_leading.nd (pi_list (pv 1)) (blkOk_by (own := [("_law_crowd_here", 4)]) (N := N_l_leading) (sc := defScope s_l_leading) (by decide +kernel)) (fun _ _ _ _ _ => (pg_name (i := 4) sc_l_leading.nd rfl (Or.inl rfl))) (fun _ _ _ _ _ => pts_nil) (fun _ _ _ _ _ => (pe_tup (pa_cons (pv 4) (pa_cons pe_bl pa_nil))))) pa_nil)))
    (pss_cons (ps_set (i := 3) sc_l_leading.nd rfl (Or.inl rfl) (pe_un un_neg pe_int))
    (pss_cons (ps_while PassesOwn.never (pt_cmpR op_ne (pv 3) (pe_callB call_len_dT (by rfl) Z.len (by decide +kernel) (pa_cons (pv 2) pa_nil)) (by first | exact nomark _ | rfl)) (pss_cons (ps_set (i := 3) sc_l_leading.nd rfl (Or.inl rfl) (pe_callB call_len_dT (by rfl) Z.len (by decide +kernel) (pa_cons (pv 2) pa_nil)))
      (pss_one (ps_lock (ps_for PassesOwn.never rfl (pi_keys (pv 0)) (pg_name (i := 4) sc_l_leading.nd rfl (Or.inl rfl))
        (pss_cons (ps_setLc (i := 5) (own := [("_law_one_here", 6)]) (g := (gName 6)) rfl sc_l_leading.nd rfl rfl (sw_true rfl rfl rfl (by decide +kernel)) (pi_list (pe_dget hu (pv 0) (pv 4) (fun _ _ => rfl))) (blkOk_by (own := [("_law_one_here", 6)]) (N := N_l_leading) (sc := defScope s_l_leading) (by decide +kernel)) (fun _ _ _ _ _ => (pg_name (i := 6) sc_l_leading.nd rfl (Or.inl rfl))) (fun _ _ _ _ _ => pts_one (pt_cmp (pc_din hu (pv 6) (pv 2)))) (fun _ _ _ _ _ => (pv 6)))
        (pss_one (ps_if (PW.pt (pw_and (pt_cmpR (op_neNil hr) (pv 5) (pe_lst pa_nil) (by first | exact nomark _ | rfl)) (pw_and1 (pt_cmp (pc_dnotin hu (pv 4) (pv 2)))))) (pss_one (ps_dput hu (pv 2) (pv 4) pe_bl rfl)) pss_nil))))))))
    (pss_one (ps_ret (pv 2)))))), ?_⟩
  -- found = dict([(crowd, True) for crowd in some])
  refine ⟨_, rfl, gl, rfl, ⟨_, SqL.of hgl⟩, fun D2 hD2 => lc_it walk_list (fun i H' => Same H H' ∧ ∃ ts, H' D2 = some (.lst (ts.map V.ref)) ∧ PairsT H' ts (fkv seenV (gs.take i)))
    ⟨same_new hD2, [], upd_same, .nil⟩ (fun i H' _ h => SqL.of (h.1 _ _ hgl)) ?_ ?_⟩
  · rintro i x H4 H4' hi ⟨sH4, ts3, e4, p4⟩ ⟨rfl, hx⟩
    have hi' : i < gt.length := by rwa [List.length_map] at hi
    have gtl : gt.length = gs.length := Paired.length hgt
    obtain ⟨T, hT⟩ : ∃ T, gt[i]? = some T := ⟨gt[i], List.getElem?_eq_getElem hi'⟩
    obtain rfl := ref_at hx hT
    obtain ⟨kc, hkc, hTk⟩ := paired_getL (F := fun t (ns : List Int) => H t = some (.tup (ns.map V.int))) hgt hT
    refine ⟨rfl, _, rfl, (by show 2 ≤ sizeLine; decide), fun U hU => ?_⟩
    have s5 := same_new (o := .tup [.ref T, .bl true]) hU
    have e5 := s5 _ _ e4
    have t5 := (tst s5).trans (tst_lst (o := .lst (ts3.map V.ref ++ [.ref U])) e5)
    have tl : ts3.length = _ := Paired.length p4
    rw [fkv_len, List.length_take] at tl
    refine ⟨_, e5, by rw [List.length_map]; exact len_lt (by omega), same_upd (sH4.trans s5) hD2, ts3 ++ [U], by rw [upd_same, List.map_append]; rfl, ?_⟩
    have e6 : fkv seenV (gs.take (i + 1)) = fkv seenV (gs.take i) ++ [(ck kc, V.bl true)] := by
      rw [take_snoc hkc]
      unfold fkv
      rw [List.map_append]
      rfl
    rw [e6]
    refine paired_snoc (paired_mono p4 fun p kv ⟨b, h1, h2⟩ => ⟨b, t5 _ _ h1, t5 _ _ h2⟩) ⟨T, tst_lst (o := .lst (ts3.map V.ref ++ [.ref U])) e5 _ _ upd_same, ?_⟩
    rw [ck_kV]
    exact t5 _ _ (tst sH4 _ _ hTk)
  rintro H4 ⟨sH4, ts3, e4, p4⟩
  have gtl : (gt.map V.ref).length = gs.length := by rw [List.length_map]; exact Paired.length hgt
  rw [gtl, List.take_length] at p4
  refine ⟨D2, ts3, fkv seenV gs, rfl, e4, p4, by rw [fkv_keys]; exact ck_nodup ngs, fun fa hfa => ?_⟩
  have s5 := same_upd (o := .dT (fkv seenV gs)) sH4 (free_of sH4 hfa)
  have hfaH := free_of sH4 hfa
  have nfg : fa ≠ g := fun z => by rw [z, hg] at hfaH; cases hfaH
  refine ⟨_, rfl, ?_⟩
  -- while many != len(found)
  refine ⟨fun mm σ H' => ∃ (fs : List (List Int)) (mv : Int), ∃ v4 v5, σ = [some (.ref g), some (.ref gl), some (.ref fa), some (.int mv), v4, v5, none] ∧ Same H H' ∧ H' fa = some (.dT (fkv seenV fs)) ∧ fs.Nodup ∧ (∀ k ∈ fs, k ∈ ks) ∧ (∀ k ∈ fs, Leads R (· ∈ gs) k) ∧ (∀ k ∈ gs, k ∈ fs) ∧
    (mv = (fs.length : Int) → ∀ k ∈ ks, (∃ d ∈ nexts R k, d ∈ fs) → k ∈ fs) ∧ mm = (36 - fs.length) * 2 + (if mv = (fs.length : Int) then 0 else 1),
    ⟨_, gs, -1, none, none, rfl, s5, upd_same, ngs, sgs, fun k hk => ⟨k, .refl, hk⟩, fun k hk => hk, fun z => absurd z (by omega), rfl⟩, ?_⟩
  rintro mm σ H5 ⟨fs, mv, v4, v5, rfl, s05, hf5, nf, sf, lf, gf, clf, hmm⟩
  have f35 : fs.length ≤ 35 := F.few nf fun k hk => (AO.all k).mp (sf k hk)
  refine ⟨_, rfl, _, rfl, fa, _, rfl, hf5, rfl, _, rfl, ?_⟩
  rw [fkv_len]
  by_cases e : mv = (fs.length : Int)
  · -- the end
    refine ifW (by rw [e, decide_eq_true rfl]; rfl) ?_
    refine ⟨_, rfl, q H5 fa fs s05 hfaH hf5 ⟨nf, sf, fun k hk => ⟨lf k, fun ⟨d, hd, hdg⟩ => ?_⟩⟩⟩
    refine Comes.back (p := fun x => x ∈ fs) hd (gf d hdg) fun x y hx hy hyf => ?_
    exact clf e x (AO.comes hk hx) ⟨y, hy, hyf⟩
  refine ifY (by rw [decide_eq_false (fun z => e (by injection z))]; rfl) ?_
  rw [if_neg e] at hmm
  refine ⟨fun σ' H' => ∃ (fs' : List (List Int)) (mv : Int), ∃ v4 v5, σ' = [some (.ref g), some (.ref gl), some (.ref fa), some (.int mv), v4, v5, none] ∧ Same H H' ∧ H' fa = some (.dT (fkv seenV fs')) ∧ fs'.Nodup ∧ (∀ k ∈ fs', k ∈ ks) ∧ (∀ k ∈ fs', Leads R (· ∈ gs) k) ∧ (∀ k ∈ gs, k ∈ fs') ∧
    (mv = (fs'.length : Int) → ∀ k ∈ ks, (∃ d ∈ nexts R k, d ∈ fs') → k ∈ fs') ∧ mv = (fs.length : Int) ∧ fs.length ≤ fs'.length, ?_, ?_⟩
  · rintro σ' H' ⟨fs', mv', w4, w5, rfl, h1, h2, h3, h4, h5, h6, h7, h8, h9⟩
    have f35' : fs'.length ≤ 35 := F.few h3 fun k hk => (AO.all k).mp (h4 k hk)
    refine ⟨(36 - fs'.length) * 2 + (if mv' = (fs'.length : Int) then 0 else 1), ?_, fs', mv', w4, w5, rfl, h1, h2, h3, h4, h5, h6, h7, rfl⟩
    rw [hmm]
    by_cases e2 : mv' = (fs'.length : Int)
    · rw [if_pos e2]
      omega
    · rw [if_neg e2]
      omega
  refine ⟨_, rfl, fa, _, rfl, hf5, ?_⟩
  rw [fkv_len]
  have hg5 := s05 _ _ hg
  refine ⟨g, _, hg5, trivial, fun od => ⟨_, rfl, g, od, rfl, .inr ⟨_, upd_same, for_it walk_keysT (fun i σ H' => ∃ t v4 v5, σ = [some (.ref g), some (.ref gl), some (.ref fa), some (.int (fs.length : Int)), v4, v5, none] ∧ Same (upd H g (.frz od (.dT (fkv af ks)))) H' ∧ H' fa = some (.dT (fkv seenV (fs ++ t))) ∧ (fs ++ t).Nodup ∧
    (∀ k ∈ fs ++ t, k ∈ ks) ∧ (∀ k ∈ fs ++ t, Leads R (· ∈ gs) k) ∧ (∀ i', i' < i → ∀ k, ks[i']? = some k → (∃ d ∈ nexts R k, d ∈ fs) → k ∈ fs ++ t))
    ⟨[], _, _, rfl, relock s05, by rw [List.append_nil, upd_ne nfg]; exact hf5, by rw [List.append_nil]; exact nf, by rw [List.append_nil]; exact sf, by rw [List.append_nil]; exact lf, fun i' hi' => absurd hi' (by omega)⟩ (fun i σ H' _ ⟨_, _, _, _, h, _⟩ => h _ _ upd_same) ?_ ?_⟩⟩⟩
  · rintro i x σ H6 H6' hi ⟨t, w4, w5, rfl, s6, hf6, nf6, sf6, lf6, c6⟩ ⟨rfl, k, v, qa, hk, rfl, hqa⟩
    obtain ⟨kc, hkc, rfl, rfl⟩ := fk_nth hk
    rw [ck_kV] at hqa
    have hkm : kc ∈ ks := List.mem_of_getElem? hkc
    obtain ⟨e', he', ts2, ht1, ht2⟩ := haf kc hkm
    have neg : e' ≠ g := ne_kind ht1 hg (fun z => nomatch z)
    have hte : ∀ {H'}, Same (upd H g (.frz od (.dT (fkv af ks)))) H' → H' e' = some (.lst (ts2.map V.ref)) := fun {H'} s => s _ _ (by rw [upd_ne neg]; exact ht1)
    have htp : ∀ {H'}, Same (upd H g (.frz od (.dT (fkv af ks)))) H' → TupsAt H' ts2 (nexts R kc) := fun {H'} s => tups_mono ht2 ((tst_lock hg).trans (tst s))
    have l6 : (fs ++ t).length ≤ 35 := F.few nf6 fun k hk => (AO.all k).mp (sf6 k hk)
    have n100 : ts2.length ≤ 100 := by
      have : ts2.length = _ := Paired.length ht2
      have nl' : (nexts R kc).length = (canL R kc).length := by unfold nexts; rw [List.length_map]
      have c1 : (canL R kc).length ≤ R.meets.length := canI_len R kc R.meets.length
      have c2 := F.ok.ml
      omega
    -- leads
    refine ⟨_, rfl, _, rfl, g, _, rfl, dget_t (.inr ⟨_, s6 _ _ upd_same⟩) hqa (v := some (.ref e')) (by rw [fkv_val, if_pos hkm, he']), ?_⟩
    refine ⟨e', rfl, ⟨_, SqL.of (hte s6)⟩, fun L hL => lc_it walk_list (fun j H' => Same H6' H' ∧ ∃ us, H' L = some (.lst (us.map V.ref)) ∧ TupsAt H' us (((nexts R kc).take j).filter fun d => decide (d ∈ fs ++ t)))
      ⟨same_new hL, [], upd_same, .nil⟩ (fun j H' _ h => SqL.of (h.1 _ _ (hte s6))) ?_ ?_⟩
    · rintro j x H7 H7' hj ⟨s7, us, hL7, hus⟩ ⟨rfl, hx⟩
      have hj' : j < ts2.length := by rwa [List.length_map] at hj
      obtain ⟨u, hui⟩ : ∃ T, ts2[j]? = some T := ⟨ts2[j], List.getElem?_eq_getElem hj'⟩
      obtain rfl := ref_at hx hui
      obtain ⟨d, hdi, hud⟩ := paired_getL (F := fun t (ns : List Int) => H7' t = some (.tup (ns.map V.int))) (htp (s6.trans s7)) hui
      refine ⟨rfl, _, rfl, _, rfl, fa, _, rfl, dget_t (Rd.of (s7 _ _ hf6)) hud rfl, _, rfl, ?_⟩
      rw [take_snoc hdi, List.filter_append, fkv_val]
      have hfs := List.length_filter_le (fun d => decide (d ∈ fs ++ t)) ((nexts R kc).take j)
      rw [List.length_take] at hfs
      have ul : us.length = _ := Paired.length hus
      have nl2 : ts2.length = (nexts R kc).length := Paired.length ht2
      by_cases e : d ∈ fs ++ t
      · rw [if_pos e]
        refine iteT ⟨_, rfl, _, hL7, by rw [List.length_map]; exact len_lt (by omega), same_upd s7 hL, us ++ [u], by rw [upd_same, List.map_append]; rfl, ?_⟩
        rw [show List.filter (fun d => decide (d ∈ fs ++ t)) [d] = [d] from List.filter_cons_of_pos (decide_eq_true e)]
        have t6 : Tst H7' _ := (tst_lst (o := .lst (us.map V.ref ++ [.ref u])) hL7)
        exact tups_snoc (tups_mono hus t6) (t6 _ _ hud)
      · rw [if_neg e]
        refine iteF ⟨s7, us, hL7, ?_⟩
        rw [show List.filter (fun d => decide (d ∈ fs ++ t)) [d] = [] from List.filter_cons_of_neg (by rw [decide_eq_false e]; decide), List.append_nil]
        exact hus
    rintro H7 ⟨s7, us, hL7, hus⟩
    have nl2 : (ts2.map V.ref).length = (nexts R kc).length := by rw [List.length_map]; exact Paired.length ht2
    rw [nl2, List.take_length] at hus
    refine ⟨_, rfl, Nat.zero_le _, fun nl hnl => ?_⟩
    have s8 := same_new (o := .lst []) hnl
    have s78 := s7.trans s8
    have s68 := s6.trans s78
    refine ⟨L, nl, us, _, rfl, rfl, s8 _ _ hL7, upd_same, tups_mono hus (tst s8), _, rfl, ?_⟩
    have some_iff : us.isEmpty = false ↔ ∃ d ∈ nexts R kc, d ∈ fs ++ t := by
      have ul : us.length = _ := Paired.length hus
      constructor
      · intro h
        cases hflt : (nexts R kc).filter fun d => decide (d ∈ fs ++ t) with
        | nil =>
          rw [hflt] at ul
          rw [List.length_eq_zero_iff.mp ul] at h
          cases h
        | cons d _ =>
          have : d ∈ (nexts R kc).filter fun d => decide (d ∈ fs ++ t) := by rw [hflt]; exact List.mem_cons_self
          obtain ⟨h1, h2⟩ := List.mem_filter.mp this
          exact ⟨d, h1, of_decide_eq_true h2⟩
      · rintro ⟨d, h1, h2⟩
        have : d ∈ (nexts R kc).filter fun d => decide (d ∈ fs ++ t) := List.mem_filter.mpr ⟨h1, decide_eq_true h2⟩
        cases us with
        | nil =>
          have h0 : _ = [] := List.length_eq_zero_iff.mp ul.symm
          rw [h0] at this
          cases this
        | cons _ _ => rfl
    have stay : ((∃ d ∈ nexts R kc, d ∈ fs) → kc ∈ fs ++ t) → ∃ t' v4 v5, [some (V.ref g), some (.ref gl), some (.ref fa), some (.int (fs.length : Int)), some (.ref qa), some (.ref L), none] = [some (.ref g), some (.ref gl), some (.ref fa), some (.int (fs.length : Int)), v4, v5, none] ∧ Same (upd H g (.frz od (.dT (fkv af ks)))) (upd H7 nl (.lst [])) ∧ upd H7 nl (.lst []) fa = some (.dT (fkv seenV (fs ++ t'))) ∧ (fs ++ t').Nodup ∧
        (∀ k ∈ fs ++ t', k ∈ ks) ∧ (∀ k ∈ fs ++ t', Leads R (· ∈ gs) k) ∧ (∀ i', i' < i + 1 → ∀ k, ks[i']? = some k → (∃ d ∈ nexts R k, d ∈ fs) → k ∈ fs ++ t') := fun h =>
      ⟨t, _, _, rfl, s68, s78 _ _ hf6, nf6, sf6, lf6, fun i' hi' k' hk' hd' => by
        rcases Nat.lt_or_ge i' i with z | z
        · exact c6 i' z k' hk' hd'
        · have : i' = i := by omega
          subst this
          rw [hkc] at hk'
          obtain rfl := Option.some.inj hk'
          exact h hd'⟩
    cases hem : us.isEmpty with
    | true =>
      refine iteF (stay fun ⟨d, h1, h2⟩ => ?_)
      have := some_iff.mpr ⟨d, h1, List.mem_append_left _ h2⟩
      rw [hem] at this
      cases this
    | false =>
      obtain ⟨d0, hd01, hd02⟩ := some_iff.mp hem
      refine iteT ⟨_, rfl, _, rfl, fa, _, rfl, dget_t (Rd.of (s78 _ _ hf6)) (s78 _ _ hqa) rfl, _, rfl, ?_⟩
      rw [fkv_val]
      by_cases e : kc ∈ fs ++ t
      · rw [if_pos e]
        exact iteF (stay fun _ => e)
      · rw [if_neg e]
        refine iteT ⟨_, rfl, _, rfl, fa, _, rfl, dput_t (s78 _ _ hf6) (s78 _ _ hqa) (by rw [fkv_len]; exact len_lt (by omega)), ?_⟩
        have eput : putK (fkv seenV (fs ++ t)) (ck kc) (.bl true) = fkv seenV ((fs ++ t) ++ [kc]) := fkv_put e rfl
        rw [eput]
        have hfaL : upd H g (.frz od (.dT (fkv af ks))) fa = none := rel_none hg hfaH
        refine ⟨t ++ [kc], _, _, rfl, same_upd s68 hfaL, by rw [upd_same, List.append_assoc], by rw [← List.append_assoc]; exact nd_snoc' nf6 e, fun k' hk' => ?_, fun k' hk' => ?_, fun i' hi' k' hk' hd' => ?_⟩
        · rw [← List.append_assoc] at hk'
          rcases List.mem_append.mp hk' with z | z
          · exact sf6 k' z
          · rw [List.mem_singleton.mp z]
            exact hkm
        · rw [← List.append_assoc] at hk'
          rcases List.mem_append.mp hk' with z | z
          · exact lf6 k' z
          · rw [List.mem_singleton.mp z]
            obtain ⟨y, hy1, hy2⟩ := lf6 d0 hd02
            exact ⟨y, Comes.head hd01 hy1, hy2⟩
        · rw [← List.append_assoc]
          rcases Nat.lt_or_ge i' i with z | z
          · exact List.mem_append_left _ (c6 i' z k' hk' hd')
          · have : i' = i := by omega
            subst this
            rw [hkc] at hk'
            obtain rfl := Option.some.inj hk'
            exact List.mem_append_right _ List.mem_cons_self
  · rintro σ H6 ⟨t, w4, w5, rfl, s6, hf6, nf6, sf6, lf6, c6⟩
    rw [fkv_len] at c6
    refine ⟨s6 _ _ upd_same, fs ++ t, _, _, _, rfl, unlock hg s6, by rw [upd_ne nfg]; exact hf6, nf6, sf6, lf6, fun k hk => List.mem_append_left _ (gf k hk), fun z k hk hd => ?_, rfl, by rw [List.length_append]; omega⟩
    rw [List.length_append] at z
    have ht : t = [] := List.length_eq_zero_iff.mp (by omega)
    subst ht
    rw [List.append_nil] at hd c6 ⊢
    obtain ⟨i, hi⟩ := List.mem_iff_getElem?.mp hk
    exact c6 i (List.getElem?_eq_some_iff.mp hi).1 k hi hd
end
end PB
namespace PB
open PySem PySem.Spec PyProof.Rows L2
/-- the rooms that don't say b -/
def roomsI (R : Rule) (b : Bool) (i : Nat) : List Nat := (List.range i).filter fun i => decide (R.say i ≠ b)
theorem sum_pos {l : List Nat} {c : List Int} (hp : ∀ x ∈ c, 0 ≤ x) : 0 ≤ handsOf l c ∧ (0 < handsOf l c ↔ ∃ i ∈ l, 0 < c.getD i 0) := by
  induction l with
  | nil => exact ⟨Int.le_refl 0, fun h => absurd h (by show ¬ (0 : Int) < 0; omega), fun ⟨i, h, _⟩ => by cases h⟩
  | cons a l ih =>
    obtain ⟨i1, i2⟩ := ih
    have e : handsOf (a :: l) c = c.getD a 0 + handsOf l c := by unfold handsOf; rw [List.map_cons, List.sum_cons]
    have pa := pos_get hp a
    rw [e]
    refine ⟨by omega, fun h => ?_, fun ⟨i, h1, h2⟩ => ?_⟩
    · by_cases h0 : 0 < c.getD a 0
      · exact ⟨a, List.mem_cons_self, h0⟩
      · obtain ⟨i, j1, j2⟩ := i2.mp (by omega)
        exact ⟨i, List.mem_cons_of_mem _ j1, j2⟩
    · rcases List.mem_cons.mp h1 with z | z
      · subst z
        omega
      · have := i2.mpr ⟨i, z, h2⟩
        omega
theorem many_wrong {R : Rule} {b : Bool} {c : List Int} (hp : ∀ x ∈ c, 0 ≤ x) (hl : c.length = R.n) : decide (handsOf (roomsI R b R.n) c > 0) = wrongB R b c := by
  unfold wrongB
  cases h : (List.range c.length).any fun i => decide (0 < c.getD i 0) && decide (R.say i ≠ b) with
  | true =>
    obtain ⟨i, h1, h2⟩ := List.any_eq_true.mp h
    rw [Bool.and_eq_true] at h2
    refine decide_eq_true ((sum_pos hp).2.mpr ⟨i, List.mem_filter.mpr ⟨by rw [← hl]; exact h1, h2.2⟩, of_decide_eq_true h2.1⟩)
  | false =>
    refine decide_eq_false fun z => ?_
    obtain ⟨i, h1, h2⟩ := (sum_pos hp).2.mp z
    obtain ⟨h3, h4⟩ := List.mem_filter.mp h1
    have := List.any_eq_false.mp h i (by rw [hl]; exact h3)
    exact this (by rw [decide_eq_true h2, h4]; rfl)
theorem roomsI_len (R : Rule) (b : Bool) (i : Nat) : (roomsI R b i).length ≤ i := by
  have := List.length_filter_le (fun i => decide (R.say i ≠ b)) (List.range i)
  rwa [List.length_range] at this
section
variable {P : Program} {w : World} {K : PySem.W.Frag} {mg : Str → Option Value} {base : Heap}
def spLMany : Sp := fun vs H Q _ => ∃ (a l : Addr) (c : List Int) (rs : List Nat), vs = [.ref a, .ref l] ∧ H a = some (iT c) ∧ H l = some (.lst (nV rs)) ∧ (∀ i ∈ rs, i < c.length) ∧ rs.length ≤ 100 ∧ ∀ H', Same H H' → Q (.int (handsOf rs c)) H'
theorem d_l_many (Z : BN mg) (A : At K mg "_law_many" s_l_many ["_law_crowd_here", "_law_rooms"]) : Def P w K mg base 1 "_law_many" ["_law_crowd_here", "_law_rooms"] [] spLMany := by
  refine A.def sc_l_many (fun vs H Q E h => ?_) (fun f cdv A outer s H vs Q E hr h => ?_)
  · obtain ⟨a, l, c, rs, rfl, _⟩ := h
    rfl
  obtain ⟨a, l, c, rs, rfl, ha, hl, hs, h100, q⟩ := h
  refine ⟨_, (pss_one (ps_ret (pe_callB (cr_sum0 rfl) (by rfl) Z.sum (by decide +kernel) (pa_cons (pe_lc (own := [("_law_room", 2)]) (g := (gName 2)) rfl sc_l_many.nd (pi_list (pv 1)) (blkOk_by (own := [("_law_room", 2)]) (N := N_l_many) (sc := defScope s_l_many) (by decide +kernel)) (fun _ _ _ _ _ => (pg_name (i := 2) sc_l_many.nd rfl (Or.inl rfl))) (fun _ _ _ _ _ => pts_nil) (fun _ _ _ _ _ => (pe_ix ix_tup0 (pv 0) (pv 2) (fun _ _ => rfl)))) pa_nil)))), ?_⟩
  refine ⟨_, rfl, l, rfl, ⟨_, SqL.of hl⟩, fun D hD => lc_it walk_list (fun i H' => Same H H' ∧ H' D = some (.lst (((rs.take i).map fun i => c.getD i 0).map V.int)))
    ⟨same_new hD, upd_same⟩ (fun i H' _ h => SqL.of (h.1 _ _ hl)) ?_ ?_⟩
  · rintro i x H1 H1' hi ⟨sH, hD1⟩ ⟨rfl, hxi⟩
    have hi : i < rs.length := by rwa [List.length_map] at hi
    rw [get_nat hi] at hxi
    obtain rfl := Option.some.inj hxi
    have hm : rs.getD i 0 ∈ rs := by
      rw [List.getD_eq_getElem?_getD, List.getElem?_eq_getElem hi]
      exact List.getElem_mem hi
    refine ⟨rfl, _, rfl, _, rfl, a, _, _, _, rfl, rfl, Rd.of (sH _ _ ha), at_int (hs _ hm), _, hD1, ?_, same_upd sH hD, ?_⟩
    · rw [List.length_map, List.length_map, List.length_take]
      exact len_lt (by omega)
    · rw [upd_same, take_getD hi, List.map_append, List.map_append]
      rfl
  · rintro H1 ⟨sH, hD1⟩
    rw [List.length_map, List.take_length] at hD1
    exact ⟨D, _, rfl, Rd.of hD1, q H1 sH⟩
def spLAnswers : Sp := fun vs H Q _ => ∃ (r b a : Addr) (R : Rule) (q : Qn) (cs : List Int), vs = [.ref r, .ref b, .ref a] ∧ RuleAt H r R ∧ QAt H q b ∧ H a = some (iT cs) ∧ Asked R q cs ∧ ∀ H' z, Same H H' → (z = true ↔ Ans R q cs) → Q (.bl z) H'
theorem d_l_answers (Z : BN mg) (A : At K mg "_law_answers" s_l_answers ["_law_rule_here", "_law_question_here", "_law_counts"]) (D_l_truth : Def P w K mg base 4 "_law_truth" ["_law_question_here", "_law_counts"] [] (spLTruth 3)) (D_l_after : Def P w K mg base 3 "_law_after" ["_law_rule_here", "_law_crowd_here"] [] spLAfter)
    (D_l_crowd : Def P w K mg base 1 "_law_crowd" ["_law_rule_here", "_law_counts"] [] spLCrowd) (D_l_leading : Def P w K mg base 1 "_law_leading" ["_law_after_here", "_law_some_here"] [] spLLeading) (D_l_many : Def P w K mg base 1 "_law_many" ["_law_crowd_here", "_law_rooms"] [] spLMany) :
    Def P w K mg base 5 "_law_answers" ["_law_rule_here", "_law_question_here", "_law_counts"] [] spLAnswers := by
  refine A.def sc_l_answers (fun vs H Q E h => ?_) (fun f cdv A outer s H vs Q E hr h => ?_)
  · obtain ⟨r, b, a, R, q, cs, rfl, _⟩ := h
    rfl
  obtain ⟨r, b, a, R, qn, cs, rfl, hR, hb, ha, AS, q⟩ := h
  have hu := hu_of hr
  have F := AS.few
  have n4 := AS.ok.n4
  refine ⟨_, (pss_cons (ps_set (i := 3) sc_l_answers.nd rfl (Or.inr rfl) (pe_def D_l_truth hr rfl (pa_cons (pv 1) (pa_cons (pv 2) pa_nil))))
    (pss_cons (ps_set (i := 4) sc_l_answers.nd rfl (Or.inl rfl) (pe_def D_l_after hr rfl (pa_cons (pv 0) (pa_cons (pe_def D_l_crowd hr rfl (pa_cons (pv 0) (pa_cons (pv 2) pa_nil))) pa_nil))))
    (pss_cons (ps_set (i := 5) sc_l_answers.nd rfl (Or.inr rfl) (pe_lc (own := [("_law_room", 8)]) (g := (gName 8)) rfl sc_l_answers.nd (pi_range1 (by rfl) Z.range (pa_cons (pe_ix ix_tup0 (pv 0) pe_int (fun _ _ => rfl)) pa_nil)) (blkOk_by (own := [("_law_room", 8)]) (N := N_l_answers) (sc := defScope s_l_answers) (by decide +kernel)) (fun _ _ _ _ _ => (pg_name (i := 8) sc_l_answers.nd rfl (Or.inl rfl))) (fun _ _ _ _ _ => pts_one (pt_cmpR op_ne (pe_ix ix_tup0 (pe_ix ix_tup0 (pv 0) pe_int (fun _ _ => rfl)) (pv 8) (fun _ _ => rfl)) (pv 3) (by first | exact nomark _ | rfl))) (fun _ _ _ _ _ => (pv 8))))
    (pss_cons (ps_set (i := 6) sc_l_answers.nd rfl (Or.inr rfl) (pe_def D_l_leading hr rfl (pa_cons (pv 4) (pa_cons (pe_lock (pe_lc (own := [("_law_crowd_here", 9)]) (g := (gName 9)) rfl sc_l_answers.nd (pi_keys (pv 4)) (blkOk_by (own := [("_law_crowd_here", 9)]) (N := N_l_answers) (sc := defScope s_l_answers) (by decide +kernel)) (fun _ _ _ _ _ => (pg_name (i := 9) sc_l_answers.nd rfl (Or.inl rfl))) (fun _ _ _ _ _ => pts_one (pt_cmpR op_gt (pe_def D_l_many hr rfl (pa_cons (pv 9) (pa_cons (pv 5) pa_nil))) pe_int (by first | exact nomark _ | rfl))) (fun _ _ _ _ _ => (pv 9)))) pa_nil))))
    (pss_cons (ps_set (i := 7) sc_l_answers.nd rfl (Or.inl rfl) (pe_def D_l_leading hr rfl (pa_cons (pv 4) (pa_cons (pe_lock (pe_lc (own := [("_law_crowd_here", 9)]) (g := (gName 9)) rfl sc_l_answers.nd (pi_keys (pv 4)) (blkOk_by (own := [("_law_crowd_here", 9)]) (N := N_l_answers) (sc := defScope s_l_answers) (by decide +kernel)) (fun _ _ _ _ _ => (pg_name (i := 9) sc_l_answers.nd rfl (Or.inl rfl))) (fun _ _ _ _ _ => pts_one (pt_cmp (pc_dnotin hu (pv 9) (pv 6)))) (fun _ _ _ _ _ => (pv 9)))) pa_nil))))
    (pss_one (ps_ret (pe_cmpR op_eq (pe_callB call_len_dT (by rfl) Z.len (by decide +kernel) (pa_cons (pv 7) pa_nil)) (pe_callB call_len_dT (by rfl) Z.len (by decide +kernel) (pa_cons (pv 4) pa_nil)) (by first | exact nomark _ | rfl))))))))), ?_⟩
  refine ⟨_, rfl, _, rfl, b, a, qn, cs, rfl, AS.dp, AS.qok, AS.len, hb, ha, fun H1 s1 => ?_⟩
  generalize htr : qn.truth cs = tr
  refine ⟨_, rfl, _, rfl, _, rfl, r, a, R, cs, rfl, hR.mono (tst s1), AS.ok, s1 _ _ ha, AS.bg.len, fun H2 c0 s2 hc0 => ?_⟩
  have s02 := s1.trans s2
  refine ⟨r, c0, R, beginC R cs, rfl, hR.mono (tst s02), F, hc0, fun H3 g ks s3 hg AO => ?_⟩
  have s03 := s02.trans s3
  have hR3 := hR.mono (tst s03)
  obtain ⟨st, m, y, ms, r0, r1, r2, r3, r4⟩ := hR3.ex
  -- rooms
  refine ⟨_, rfl, r, _, _, _, rfl, rfl, Rd.of r0, at_nat (j := 0) rfl, (R.n : Int), rfl, by omega, by omega, fun D hD => lc_it (walk_range (lo := 0)) (fun i H' => Same H3 H' ∧ H' D = some (.lst (nV (roomsI R tr i))))
    ⟨same_new hD, upd_same⟩ (fun _ _ _ _ => trivial) ?_ ?_⟩
  · rintro i x H4 H4' hi ⟨s4, hD4⟩ ⟨rfl, hx⟩
    have hx : x = V.int (i : Int) := by
      rw [hx]
      show V.int (0 + (i : Int)) = _
      rw [Int.zero_add]
    subst hx
    have hi : i < (R.n : Int).toNat := hi
    have hsl := AS.ok.sl
    have hlen := roomsI_len R tr i
    refine ⟨rfl, _, rfl, r, _, _, _, rfl, rfl, Rd.of (s4 _ _ r0), at_nat (j := 3) rfl, _, rfl, y, _, _, _, rfl, rfl, Rd.of (s4 _ _ r4), at_bl (by omega), _, rfl, rfl, _, rfl, ?_⟩
    have eb : (!decide (V.bl (R.says.getD i false) = V.bl tr)) = decide (R.say i ≠ tr) := by
      unfold Rule.say
      cases R.says.getD i false <;> cases tr <;> decide
    rw [eb]
    by_cases e : R.say i ≠ tr
    · rw [decide_eq_true e]
      refine iteT ⟨_, rfl, _, hD4, by rw [List.length_map]; exact len_lt (by omega), same_upd s4 hD, ?_⟩
      rw [upd_same, ← nV_snoc]
      unfold roomsI
      rw [List.range_succ, List.filter_append, show List.filter (fun i => decide (R.say i ≠ tr)) [i] = [i] from List.filter_cons_of_pos (decide_eq_true e)]
    · rw [decide_eq_false e]
      refine iteF ⟨s4, ?_⟩
      rw [hD4]
      unfold roomsI
      rw [List.range_succ, List.filter_append, show List.filter (fun i => decide (R.say i ≠ tr)) [i] = [] from List.filter_cons_of_neg (by rw [decide_eq_false e]; decide), List.append_nil]
  rintro H4 ⟨s4, hD4⟩
  have en : (R.n : Int).toNat = R.n := by omega
  rw [en] at hD4
  have hg4 := hg.mono s4
  obtain ⟨af, hge, haf⟩ := hg4.ex
  have k35 : ks.length ≤ 35 := F.few AO.nd fun k hk => (AO.all k).mp hk
  obtain ⟨hn, hn1, hn4, CR⟩ := F.ex
  -- those that err
  refine ⟨_, rfl, g, _, hge, trivial, fun od => ?_⟩
  have nDg : D ≠ g := ne_kind hD4 hge (fun z => nomatch z)
  refine ⟨_, rfl, g, od, rfl, .inr ⟨_, upd_same, fun E1 hE1 => lc_it walk_keysT (fun i H' => Same (upd H4 g (.frz od (.dT (fkv af ks)))) H' ∧ ∃ ts, H' E1 = some (.lst (ts.map V.ref)) ∧ TupsAt H' ts ((ks.take i).filter (wrongB R tr)))
    ⟨same_new hE1, [], upd_same, .nil⟩ (fun i H' _ h => h.1 _ _ upd_same) ?_ ?_⟩⟩
  · rintro i x H5 H5' hi ⟨sH, ts, hD5, hts⟩ ⟨rfl, k, v, qa, hk, rfl, hqa⟩
    obtain ⟨kc, hkc, rfl, rfl⟩ := fk_nth hk
    rw [ck_kV] at hqa
    have hcm : Comes R (beginC R cs) kc := (AO.all kc).mp (List.mem_of_getElem? hkc)
    have Fk := F.comes hcm
    have Ck := CR.comes AS.ok hcm
    have hrl := roomsI_len R tr R.n
    refine ⟨rfl, _, rfl, _, rfl, qa, D, kc, roomsI R tr R.n, rfl, hqa, sH _ _ (by rw [upd_ne nDg]; exact hD4), fun i hi => ?_, by omega, fun H6 s6 => ?_⟩
    · rw [Fk.len]
      exact List.mem_range.mp (List.mem_filter.mp hi).1
    refine ⟨_, _, rfl, rfl, _, rfl, ?_⟩
    have s05 := sH.trans s6
    dsimp only
    rw [many_wrong Ck.pos Fk.len, take_snoc hkc, List.filter_append]
    have hfs := List.length_filter_le (wrongB R tr) (ks.take i)
    rw [List.length_take] at hfs
    have tl : ts.length = _ := Paired.length hts
    cases e : wrongB R tr kc with
    | true =>
      refine iteT ⟨_, rfl, _, s6 _ _ hD5, by rw [List.length_map]; exact len_lt (by omega), same_upd s05 hE1, ts ++ [qa], by rw [upd_same, List.map_append]; rfl, ?_⟩
      rw [List.filter_cons_of_pos e, List.filter_nil]
      have t6 := (tst s6).trans (tst_lst (o := .lst (ts.map V.ref ++ [.ref qa])) (s6 _ _ hD5))
      exact tups_snoc (tups_mono hts t6) (t6 _ _ hqa)
    | false =>
      refine iteF ⟨s05, ts, s6 _ _ hD5, ?_⟩
      rw [List.filter_cons_of_neg (by rw [e]; decide), List.filter_nil, List.append_nil]
      exact tups_mono hts (tst s6)
  rintro H5 ⟨sH, ts, hE5, hts⟩
  rw [fkv_len, List.take_length] at hts
  refine ⟨sH _ _ upd_same, ?_⟩
  have nEg : E1 ≠ g := fun z => by rw [z, upd_same] at hE1; cases hE1
  have s5 : Same H4 (upd H5 g (.dT (fkv af ks))) := unlock hge sH
  have tg : Tst H5 (upd H5 g (.dT (fkv af ks))) := tst_upd fun xs z => by rw [sH _ _ upd_same] at z; cases z
  refine ⟨g, E1, ts, R, beginC R cs, ks, ks.filter (wrongB R tr), rfl, hg4.mono s5, F, AO, by rw [upd_ne nEg]; exact hE5, tups_mono hts tg, List.Nodup.sublist (List.filter_sublist) AO.nd, fun k hk => (List.mem_filter.mp hk).1, fun H6 pw ws s6 hpn hpw L1 => ?_⟩
  have s46 := s5.trans s6
  have hg6 := hg4.mono s46
  clear hts
  obtain ⟨af6, hge6, haf6⟩ := hg6.ex
  -- those that don't lead there
  refine ⟨_, rfl, g, _, hge6, trivial, fun od2 => ?_⟩
  have npg : pw ≠ g := fun z => by rw [z, upd_same] at hpn; cases hpn
  refine ⟨_, rfl, g, od2, rfl, .inr ⟨_, upd_same, fun E2 hE2 => lc_it walk_keysT (fun i H' => Same (upd H6 g (.frz od2 (.dT (fkv af6 ks)))) H' ∧ ∃ ts, H' E2 = some (.lst (ts.map V.ref)) ∧ TupsAt H' ts ((ks.take i).filter fun k => decide (k ∉ ws)))
    ⟨same_new hE2, [], upd_same, .nil⟩ (fun i H' _ h => h.1 _ _ upd_same) ?_ ?_⟩⟩
  · rintro i x H7 H7' hi ⟨sH, ts, hD4, hts⟩ ⟨rfl, k, v, qa, hk, rfl, hqa⟩
    obtain ⟨kc, hkc, rfl, rfl⟩ := fk_nth hk
    rw [ck_kV] at hqa
    have hpw6 : H7' pw = some (.dT (fkv seenV ws)) := sH _ _ (by rw [upd_ne npg]; exact hpw)
    refine ⟨rfl, _, rfl, _, rfl, pw, _, rfl, dget_t (Rd.of hpw6) hqa rfl, _, rfl, ?_⟩
    rw [take_snoc hkc, List.filter_append, fkv_val]
    have hfs := List.length_filter_le (fun k => decide (k ∉ ws)) (ks.take i)
    rw [List.length_take] at hfs
    have tl : ts.length = _ := Paired.length hts
    by_cases e : kc ∈ ws
    · rw [if_pos e]
      refine iteF ⟨sH, ts, hD4, ?_⟩
      rw [List.filter_cons_of_neg (by rw [decide_eq_false (fun z => z e)]; decide), List.filter_nil, List.append_nil]
      exact hts
    · rw [if_neg e]
      refine iteT ⟨_, rfl, _, hD4, by rw [List.length_map]; exact len_lt (by omega), same_upd sH hE2, ts ++ [qa], by rw [upd_same, List.map_append]; rfl, ?_⟩
      rw [show List.filter (fun k => decide (k ∉ ws)) [kc] = [kc] from List.filter_cons_of_pos (decide_eq_true e)]
      have t6 : Tst H7' _ := (tst_lst (o := .lst (ts.map V.ref ++ [.ref qa])) hD4)
      exact tups_snoc (tups_mono hts t6) (t6 _ _ hqa)
  rintro H7 ⟨sH7, ts2, hD7, hts2⟩
  rw [fkv_len, List.take_length] at hts2
  refine ⟨sH7 _ _ upd_same, ?_⟩
  have nDg2 : E2 ≠ g := fun z => by rw [z, upd_same] at hE2; cases hE2
  have s7 : Same H6 (upd H7 g (.dT (fkv af6 ks))) := unlock hge6 sH7
  have tg2 : Tst H7 (upd H7 g (.dT (fkv af6 ks))) := tst_upd fun xs z => by rw [sH7 _ _ upd_same] at z; cases z
  refine ⟨g, E2, ts2, R, beginC R cs, ks, ks.filter (fun k => decide (k ∉ ws)), rfl, hg6.mono s7, F, AO, by rw [upd_ne nDg2]; exact hD7, tups_mono hts2 tg2, List.Nodup.sublist (List.filter_sublist) AO.nd, fun k hk => (List.mem_filter.mp hk).1, fun H8 ps ss s8 _ hps L2 => ?_⟩
  have s68 := s7.trans s8
  refine ⟨_, rfl, ps, _, rfl, hps, _, rfl, g, _, rfl, s68 _ _ hge6, rfl, ?_⟩
  rw [fkv_len, fkv_len]
  refine q H8 _ (((s03.trans s4).trans s46).trans s68) ?_
  have wrong_iff : ∀ k ∈ ks, (k ∉ ws ↔ Sett R (qn.truth cs) k) := fun k hk => by
    rw [htr, L1.all k hk]
    constructor
    · intro h d hd
      cases e : wrongB R tr d with
      | false => rfl
      | true => exact absurd ⟨d, hd, List.mem_filter.mpr ⟨AO.comes hk hd, e⟩⟩ h
    · rintro h ⟨d, hd, hm⟩
      have := (List.mem_filter.mp hm).2
      rw [h d hd] at this
      cases this
  have good_iff : ∀ k ∈ ks, (k ∈ ss ↔ Leads R (Sett R (qn.truth cs)) k) := fun k hk => by
    rw [L2.all k hk]
    constructor
    · rintro ⟨d, hd, hm⟩
      have := of_decide_eq_true (List.mem_filter.mp hm).2
      exact ⟨d, hd, (wrong_iff d (AO.comes hk hd)).mp this⟩
    · rintro ⟨d, hd, hs⟩
      exact ⟨d, hd, List.mem_filter.mpr ⟨AO.comes hk hd, decide_eq_true ((wrong_iff d (AO.comes hk hd)).mpr hs)⟩⟩
  rw [decide_eq_true_iff]
  constructor
  · intro e d hd
    have e : ss.length = ks.length := by injection e with e; omega
    have hk := (AO.all d).mpr hd
    refine (good_iff d hk).mp ?_
    rcases Classical.em (d ∈ ss) with z | z
    · exact z
    · have := few_in (l := d :: ss) (m := ks) (List.nodup_cons.mpr ⟨z, L2.nd⟩) fun x hx => by
        rcases List.mem_cons.mp hx with y | y
        · rw [y]; exact hk
        · exact L2.sub x y
      rw [List.length_cons] at this
      omega
  · intro h
    have h1 := few_in L2.nd L2.sub
    have h2 := few_in AO.nd fun k hk => (good_iff k hk).mpr (h k ((AO.all k).mp hk))
    rw [show ss.length = ks.length by omega]
end
end PB
namespace PB
open PySem PySem.Spec PyProof.Rows L2
theorem cat3 {H : Hp} {a b : Addr} {xs ys : List V} {Q : VK} (ha : H a = some (.tup xs)) (hb : H b = some (.tup ys)) (hl : xs.length + ys.length ≤ 1000) (hT : ∀ T H', Same H H' → H' T = some (.tup (xs ++ ys)) → Q (.ref T) H') : rCat0 (.ref a) (.ref b) H Q := by
  refine ⟨a, b, xs, ys, rfl, rfl, Rd.of ha, Rd.of hb, small_le hl, fun z => ?_, fun _ z => ?_, fun _ _ p hp => ?_⟩
  · subst z
    exact hT b H (Same.refl _) hb
  · subst z
    exact hT a H (Same.refl _) (by rw [List.append_nil]; exact ha)
  · exact hT p _ (same_new hp) upd_same
theorem slice_drop {H : Hp} {a : Addr} {xs : List V} {k : Nat} {z : Int} {Q : VK} (hz : z = (k : Int)) (ha : H a = some (.tup xs)) (hT : ∀ T H', Same H H' → H' T = some (.tup (xs.drop k)) → Q (.ref T) H') : rSlT0 (.ref a) (some z) none H Q := by
  subst hz
  have e : cutV xs (some (k : Int)) none = xs.drop k := by
    unfold cutV
    rw [HT.sIx_nat, HT.sIx_none]
    by_cases h : k ≤ xs.length
    · rw [Nat.min_eq_left h, List.take_of_length_le (by rw [List.length_drop]; exact Nat.le_refl _)]
    · rw [Nat.min_eq_right (by omega), List.drop_of_length_le (Nat.le_refl _), List.take_nil, List.drop_of_length_le (by omega)]
  refine ⟨a, xs, rfl, Rd.of ha, fun ⟨h, _⟩ => ?_, fun _ p hp => ?_⟩
  · rw [HT.sIx_nat] at h
    have h0 : xs.drop k = xs := by
      by_cases hk : k = 0
      · subst hk; rfl
      · have : xs.length = 0 := by omega
        rw [List.length_eq_zero_iff.mp this, List.drop_nil]
    exact hT a H (Same.refl _) (by rw [h0]; exact ha)
  · rw [e]
    exact hT p _ (same_new hp) upd_same
theorem slice_take {H : Hp} {a : Addr} {xs : List V} {k : Nat} {z : Int} {Q : VK} (hz : z = (k : Int)) (ha : H a = some (.tup xs)) (hT : ∀ T H', Same H H' → H' T = some (.tup (xs.take k)) → Q (.ref T) H') : rSlT0 (.ref a) none (some z) H Q := by
  subst hz
  have e : cutV xs none (some (k : Int)) = xs.take k := by
    unfold cutV
    rw [HT.sIx_nat, HT.sIx_none, List.drop_zero, Nat.sub_zero]
    by_cases h : k ≤ xs.length
    · rw [Nat.min_eq_left h]
    · rw [Nat.min_eq_right (by omega), List.take_of_length_le (Nat.le_refl _), List.take_of_length_le (by omega)]
  refine ⟨a, xs, rfl, Rd.of ha, fun ⟨_, h⟩ => ?_, fun _ p hp => ?_⟩
  · rw [HT.sIx_nat] at h
    exact hT a H (Same.refl _) (by rw [List.take_of_length_le (by omega)]; exact ha)
  · rw [e]
    exact hT p _ (same_new hp) upd_same
theorem Rd.same {H H' : Hp} {a : Addr} {o : HO} (h : Rd H a o) (s : Same H H') : Rd H' a o := h.elim (fun z => .inl (s _ _ z)) fun ⟨x, z⟩ => .inr ⟨x, s _ _ z⟩
instance (k : Nat) (s : List Nat) : Decidable (SomeOk k s) := by unfold SomeOk; exact inferInstance
theorem some_drop {k : Nat} {s : List Nat} (h : SomeOk k s) (hk : k ≤ 2) : SomeOk k (s.drop 1) := by
  have : k = 0 ∨ k = 1 ∨ k = 2 := by omega
  have key : s = [] ∨ (s = [0] ∧ 1 ≤ k) ∨ (s = [1] ∧ k = 2) ∨ (s = [0, 1] ∧ k = 2) := by
    unfold SomeOk at h
    rcases this with e | e | e <;> subst e
    · exact .inl h
    · rw [show List.range 1 = [0] from rfl] at h
      by_cases h0 : 0 ∈ s
      · simp only [List.filter_cons, List.filter_nil, h0, decide_true, if_true] at h
        exact .inr (.inl ⟨h, by decide⟩)
      · simp only [List.filter_cons, List.filter_nil, h0, decide_false, Bool.false_eq_true, if_false] at h
        exact .inl h
    · rw [show List.range 2 = [0, 1] from rfl] at h
      by_cases h0 : 0 ∈ s
      · by_cases h1 : 1 ∈ s
        · simp only [List.filter_cons, List.filter_nil, h0, h1, decide_true, if_true] at h
          exact .inr (.inr (.inr ⟨h, rfl⟩))
        · simp only [List.filter_cons, List.filter_nil, h0, h1, decide_true, decide_false, Bool.false_eq_true, if_false, if_true] at h
          exact .inr (.inl ⟨h, by decide⟩)
      · by_cases h1 : 1 ∈ s
        · simp only [List.filter_cons, List.filter_nil, h0, h1, decide_true, decide_false, Bool.false_eq_true, if_false, if_true] at h
          exact .inr (.inr (.inl ⟨h, rfl⟩))
        · simp only [List.filter_cons, List.filter_nil, h0, h1, decide_false, Bool.false_eq_true, if_false] at h
          exact .inl h
  have e0 : SomeOk k [] := by
    unfold SomeOk
    symm
    rw [List.filter_eq_nil_iff]
    intro x _ hx
    exact absurd (of_decide_eq_true hx) (by simp)
  rcases key with e | ⟨e, _⟩ | ⟨e, _⟩ | ⟨e, h2⟩
  · subst e; exact e0
  · subst e; exact e0
  · subst e; exact e0
  · subst e h2
    show SomeOk 2 [1]
    decide
section
variable {P : Program} {w : World} {K : PySem.W.Frag} {mg : Str → Option Value} {base : Heap}
def spNear : Sp := fun vs H Q _ => ∃ (a : Addr) (k n : Nat), vs = [.ref a, .int (k : Int)] ∧ FeedAt H a n ∧ n ≤ 1000 ∧ 1 ≤ k ∧ k ≤ 2 ∧
  ∀ (H' : Hp) (p r b : Addr) (R : Rule) (q : Qn), Fd H H' a (n + 10) → H' p = some (.tup [.ref r, .ref b]) → RuleAt H' r R → R.Ok → R.starts.length = k → QAt H' q b → q.Ok k → q.dp = 0 → Q (.ref p) H'
theorem d_l_near (Z : BN mg) (A : At K mg "_law_near" s_l_near ["_law_feed_here", "_law_sorts"]) (D_l_next : Def P w K mg base 1 "_law_next" ["_law_feed_here", "_law_many_here"] [] spNext) (D_l_one : Def P w K mg base 2 "_law_one" ["_law_feed_here", "_law_some_here"] [] spOne)
    (D_l_some : Def P w K mg base 2 "_law_some" ["_law_feed_here", "_law_sorts", "_law_least"] [] spSome) (D_made : Def P w K mg base 4 "made" ["question", "sorts"] [] spMade) : Def P w K mg base 5 "_law_near" ["_law_feed_here", "_law_sorts"] [] spNear := by
  refine A.def sc_l_near (fun vs H Q E h => ?_) (fun f cdv A outer s H vs Q E hr h => ?_)
  · obtain ⟨a, k, n, rfl, _⟩ := h
    rfl
  obtain ⟨a, k, n, rfl, hF, hn, k1, k2, q⟩ := h
  refine ⟨_, (pss_cons (ps_set (i := 2) sc_l_near.nd rfl (Or.inl rfl) (pe_def D_l_some hr rfl (pa_cons (pv 0) (pa_cons (pv 1) (pa_cons pe_int pa_nil)))))
    (pss_cons (ps_set (i := 3) sc_l_near.nd rfl (Or.inl rfl) (pe_def D_l_one hr rfl (pa_cons (pv 0) (pa_cons (pe_lst (pa_cons (pe_tup (pa_cons pe_str (pa_cons (pv 2) (pa_cons pe_int pa_nil)))) (pa_cons (pe_tup (pa_cons pe_str (pa_cons (pe_tup (pa_cons pe_int pa_nil)) (pa_cons (pe_slice sl_tup0 (pv 2) (po_some pe_int) po_none) pa_nil)))) (pa_cons (pe_tup (pa_cons pe_str (pa_cons (pv 2) (pa_cons pe_int (pa_cons pe_int pa_nil))))) (pa_cons (pe_tup (pa_cons pe_str (pa_cons (pv 2) (pa_cons pe_int pa_nil)))) pa_nil))))) pa_nil))))
    (pss_cons (ps_asg (pe_def D_made hr rfl (pa_cons (pv 3) (pa_cons (pv 1) pa_nil))) (pg_tup0 rfl (pgs_cons (pg_name (i := 4) sc_l_near.nd rfl (Or.inl rfl)) (pgs_cons (pg_name (i := 5) sc_l_near.nd rfl (Or.inl rfl)) (pgs_cons (pg_name (i := 6) sc_l_near.nd rfl (Or.inl rfl)) (pgs_cons (pg_name (i := 7) sc_l_near.nd rfl (Or.inl rfl)) pgs_nil))))))
    (pss_cons (ps_set (i := 8) sc_l_near.nd rfl (Or.inl rfl) (pe_def D_l_next hr rfl (pa_cons (pv 0) (pa_cons (pe_callB call_len0 (by rfl) Z.len (by decide +kernel) (pa_cons (pv 6) pa_nil)) pa_nil))))
    (pss_cons (ps_if (pt_cmpR op_eq (pe_def D_l_next hr rfl (pa_cons (pv 0) (pa_cons pe_int pa_nil))) pe_int (by first | exact nomark _ | rfl)) (pss_one (ps_ret (pe_tup (pa_cons (pe_tup (pa_cons (pv 4) (pa_cons (pv 5) (pa_cons (pe_op op_cat0 (pe_slice sl_tup0 (pv 6) po_none (po_some (pv 8))) (pe_slice sl_tup0 (pv 6) (po_some (pe_op op_add (pv 8) pe_int)) po_none)) (pa_cons (pv 7) pa_nil))))) (pa_cons (pv 3) pa_nil))))) pss_nil)
    (pss_cons (ps_set (i := 9) sc_l_near.nd rfl (Or.inl rfl) (pe_op op_mod (pv 8) (pv 4)))
    (pss_cons (ps_set (i := 7) sc_l_near.nd rfl (Or.inl rfl) (pe_op op_cat0 (pe_op op_cat0 (pe_slice sl_tup0 (pv 7) po_none (po_some (pv 9))) (pe_tup (pa_cons (pe_not (pe_ix ix_tup0 (pv 7) (pv 9) (fun _ _ => rfl))) pa_nil))) (pe_slice sl_tup0 (pv 7) (po_some (pe_op op_add (pv 9) pe_int)) po_none)))
    (pss_one (ps_ret (pe_tup (pa_cons (pe_tup (pa_cons (pv 4) (pa_cons (pv 5) (pa_cons (pv 6) (pa_cons (pv 7) pa_nil))))) (pa_cons (pv 3) pa_nil)))))))))))), ?_⟩
  refine ⟨_, rfl, _, rfl, a, k, n, rfl, hF, by omega, k1, k2, fun H1 sb s F1 hsb hs => ?_⟩
  refine ⟨_, rfl, _, rfl, (by show 3 ≤ sizeLine; decide), fun t1 h1 => ?_⟩
  have s1 := same_new (o := .tup [.str "least", .ref sb, .int 2]) h1
  refine ⟨(by show 1 ≤ sizeLine; decide), fun t2 h2 => ?_⟩
  have s2 := same_new (o := .tup [.int 0]) h2
  refine ⟨_, rfl, 1, rfl, ?_⟩
  dsimp only [tNoPart]
  refine slice_drop (k := 1) rfl ((s1.trans s2) _ _ hsb) fun t3 H2 s3 h3 => ?_
  refine ⟨(by show 3 ≤ sizeLine; decide), fun t4 h4 => ?_⟩
  have s4 := same_new (o := .tup [.str "more", .ref t2, .ref t3]) h4
  refine ⟨_, rfl, (by show 4 ≤ sizeLine; decide), fun t5 h5 => ?_⟩
  have s5 := same_new (o := .tup [.str "rest", .ref sb, .int 2, .int 1]) h5
  refine ⟨_, rfl, (by show 3 ≤ sizeLine; decide), fun t6 h6 => ?_⟩
  have s6 := same_new (o := .tup [.str "least", .ref sb, .int 3]) h6
  refine ⟨(by show 4 ≤ sizeLine; decide), fun l hl => ?_⟩
  have s7 := same_new (o := .lst [.ref t1, .ref t4, .ref t5, .ref t6]) hl
  have s67 := s6.trans s7
  have s57 := s5.trans s67
  have s47 := s4.trans s57
  have s37 := s3.trans s47
  have s27 := s2.trans s37
  have s17 := s1.trans s27
  have F7 := F1.same s17
  have hsb7 := s17 _ _ hsb
  have h3' : H2 t3 = some (.tup (nV (s.drop 1))) := by
    rw [show nV (s.drop 1) = (nV s).drop 1 from List.map_drop]
    exact h3
  have nla := (F1.same (s1.trans (s2.trans (s3.trans (s4.trans (s5.trans s6)))))).feed.ne hl
  refine ⟨a, l, n + 3, [.ref t1, .ref t4, .ref t5, .ref t6], rfl, F7.feed, by omega, upd_same, nla, by show 1 ≤ 4; decide, by show 4 ≤ 1000; decide, fun H8 j v F8 hv => ?_⟩
  have t78 : Tst _ H8 := F8.tst F7.feed
  obtain ⟨b, qn, e, hq, sm, qok, qdp⟩ : ∃ b qn, v = .ref b ∧ QAt H8 qn b ∧ Small qn ∧ qn.Ok k ∧ qn.dp = 0 := by
    match j, hv with
    | 0, hv => exact ⟨t1, .least s 2, (Option.some.inj hv).symm, ⟨sb, t78 _ _ (s27 _ _ upd_same), t78 _ _ hsb7⟩, .inl ⟨s, rfl⟩, hs, rfl⟩
    | 1, hv => exact ⟨t4, .more [0] (s.drop 1), (Option.some.inj hv).symm, ⟨t2, t3, t78 _ _ (s57 _ _ upd_same), t78 _ _ (s37 _ _ upd_same), t78 _ _ (s47 _ _ h3')⟩, .inr (.inr (.inl ⟨_, _, rfl⟩)), ⟨some_one (by omega) k2, some_drop hs k2⟩, rfl⟩
    | 2, hv => exact ⟨t5, .rest s 2 1, (Option.some.inj hv).symm, ⟨sb, t78 _ _ (s67 _ _ upd_same), t78 _ _ hsb7⟩, .inr (.inr (.inr ⟨s, rfl⟩)), ⟨hs, by decide, by decide⟩, rfl⟩
    | 3, hv => exact ⟨t6, .least s 3, (Option.some.inj hv).symm, ⟨sb, t78 _ _ (s7 _ _ upd_same), t78 _ _ hsb7⟩, .inr (.inl ⟨s, rfl⟩), hs, rfl⟩
    | j + 4, hv => exact absurd hv (by simp)
  subst e
  have F18 := F7.trans F8
  clear hsb7 t78 F7 F8 s17 s27 s37 s47 s57 s67 h3'
  -- made
  refine ⟨_, rfl, _, rfl, b, k, qn, rfl, hq, sm, k1, k2, fun H9 p0 R s9 hR O hst hml => ?_⟩
  obtain ⟨st, m, y, ms, r0, r1, r2, r3, r4⟩ := hR.ex
  have ml : ms.length = R.meets.length := mts_len r3
  have mx := O.ml
  have n4 := O.n4
  have sl := O.sl
  refine ⟨p0, _, rfl, Rd.of r0, rfl, _, _, rfl, _, _, rfl, _, _, rfl, _, _, rfl, rfl, ?_⟩
  have F19 := F18.same s9
  refine ⟨_, rfl, _, rfl, m, _, rfl, .inr (Rd.of r2), a, R.meets.length, n + 3 + 1, ?_, F19.feed, by omega, hml, by omega, fun H10 at_ F10 hat => ?_⟩
  · rw [List.length_map, ml]
    rfl
  have t910 : Tst H9 H10 := F10.tst F19.feed
  have F110 := F19.trans F10
  refine ⟨_, rfl, a, 2, n + 3 + 1 + 1, rfl, F10.feed, by omega, by decide, by decide, fun H11 w0 F11 hw0 => ?_⟩
  have t11 := t910.trans (F11.tst F10.feed)
  have F111 := F110.trans F11
  have hq11 := hq.mono ((tst s9).trans t11)
  refine ⟨rfl, _, rfl, ite2 (fun _ => ?_) (fun _ => ?_)⟩
  · -- one meeting less
    refine ⟨_, rfl, _, rfl, _, rfl, _, rfl, ?_⟩
    dsimp only [tNoPart]
    refine ⟨_, rfl, slice_take (k := at_) rfl (t11 _ _ r2) fun T1 H12 s12 h12 => ?_⟩
    refine ⟨_, rfl, _, rfl, _, _, rfl, rfl, _, rfl, ?_⟩
    dsimp only [tNoPart]
    refine slice_drop (k := at_ + 1) rfl (s12 _ _ (t11 _ _ r2)) fun T2 H13 s13 h13 => ?_
    refine cat3 (s13 _ _ h12) h13 ?_ fun T3 H14 s14 h14 => ?_
    · rw [List.length_take, List.length_drop, List.length_map]
      omega
    refine ⟨_, rfl, (by show 4 ≤ sizeLine; decide), fun r' hr' => ?_⟩
    have s15 := same_new (o := .tup [.int (R.n : Int), .ref st, .ref T3, .ref y]) hr'
    refine ⟨_, rfl, (by show 2 ≤ sizeLine; decide), fun p hp => ?_⟩
    have s16 := same_new (o := .tup [.ref r', .ref b]) hp
    have s116 := ((s12.trans s13).trans s14).trans (s15.trans s16)
    have tk : ∀ {H'}, Tst H9 H' → MtsAt H' (ms.take at_ ++ ms.drop (at_ + 1)) (R.meets.take at_ ++ R.meets.drop (at_ + 1)) := fun {H'} t => by
      have : ∀ {l : List Addr} {m : List Mt} (j : Nat), MtsAt H' l m → MtsAt H' (l.take j) (m.take j) ∧ MtsAt H' (l.drop j) (m.drop j) := by
        intro l m j h
        induction h generalizing j with
        | nil => exact ⟨by rw [List.take_nil, List.take_nil]; exact .nil, by rw [List.drop_nil, List.drop_nil]; exact .nil⟩
        | cons x y ih =>
          cases j with
          | zero => exact ⟨.nil, .cons x y⟩
          | succ j => exact ⟨.cons x (ih j).1, (ih j).2⟩
      have r3' : MtsAt H' ms R.meets := paired_mono r3 fun p m z => t _ _ z
      have app : ∀ {l l' : List Addr} {m m' : List Mt}, MtsAt H' l m → MtsAt H' l' m' → MtsAt H' (l ++ l') (m ++ m') := by
        intro l l' m m' h h'
        induction h with
        | nil => exact h'
        | cons x y ih => exact .cons x ih
      exact app (this at_ r3').1 (this (at_ + 1) r3').2
    have ta := t11.trans (tst s116)
    refine q _ p r' b ⟨R.n, R.starts, R.meets.take at_ ++ R.meets.drop (at_ + 1), R.says⟩ qn ((F111.same s116).le (by omega)) upd_same ⟨st, T3, y, ms.take at_ ++ ms.drop (at_ + 1), s16 _ _ upd_same, ta _ _ r1, ?_, tk ta, ta _ _ r4⟩ ?_ hst (hq11.mono (tst s116)) qok qdp
    · rw [List.map_append, List.map_take, List.map_drop]
      exact (s15.trans s16) _ _ h14
    · refine ⟨O.n1, O.n4, O.st, O.s1, O.s2, fun x hx => ?_, ?_, O.sl⟩
      · rcases List.mem_append.mp hx with z | z
        · exact O.mt x (List.mem_of_mem_take z)
        · exact O.mt x (List.mem_of_mem_drop z)
      · show (R.meets.take at_ ++ R.meets.drop (at_ + 1)).length ≤ 100
        rw [List.length_append, List.length_take, List.length_drop]
        omega
  · -- a room says another truth
    have hn1 := O.n1
    refine ⟨_, rfl, _, rfl, _, _, rfl, rfl, (by show (0 : Int) < (R.n : Int); omega), ?_⟩
    have em : (at_ : Int) % (R.n : Int) = ((at_ % R.n : Nat) : Int) := by omega
    have hrm : at_ % R.n < R.says.length := by rw [sl]; exact Nat.mod_lt _ (by omega)
    dsimp only
    rw [em]
    generalize at_ % R.n = rm at hrm
    refine ⟨_, rfl, ?_⟩
    dsimp only [tNoPart]
    refine ⟨_, rfl, _, rfl, slice_take (k := rm) rfl (t11 _ _ r4) fun T1 H12 s12 h12 => ?_⟩
    refine ⟨_, rfl, _, rfl, y, _, _, _, rfl, rfl, Rd.of (s12 _ _ (t11 _ _ r4)), at_bl hrm, _, rfl, (by show 1 ≤ sizeLine; decide), fun T2 hT2 => ?_⟩
    have s13 := same_new (o := .tup [.bl (!R.says.getD rm false)]) hT2
    refine cat3 (s13 _ _ h12) upd_same ?_ fun T3 H14 s14 h14 => ?_
    · rw [List.length_take, List.length_map]
      show _ + 1 ≤ 1000
      omega
    refine ⟨_, rfl, _, rfl, _, _, rfl, rfl, _, rfl, ?_⟩
    dsimp only [tNoPart]
    refine slice_drop (k := rm + 1) rfl (((s12.trans s13).trans s14) _ _ (t11 _ _ r4)) fun T4 H15 s15 h15 => ?_
    refine cat3 (s15 _ _ h14) h15 ?_ fun T5 H16 s16 h16 => ?_
    · rw [List.length_append, List.length_take, List.length_drop, List.length_map]
      show _ + 1 + _ ≤ 1000
      omega
    refine ⟨_, rfl, _, rfl, _, rfl, _, rfl, (by show 4 ≤ sizeLine; decide), fun r' hr' => ?_⟩
    have s17 := same_new (o := .tup [.int (R.n : Int), .ref st, .ref m, .ref T5]) hr'
    refine ⟨_, rfl, (by show 2 ≤ sizeLine; decide), fun p hp => ?_⟩
    have s18 := same_new (o := .tup [.ref r', .ref b]) hp
    have s118 := (((s12.trans s13).trans s14).trans (s15.trans s16)).trans (s17.trans s18)
    have ta := t11.trans (tst s118)
    refine q _ p r' b ⟨R.n, R.starts, R.meets, (R.says.take rm ++ [!R.says.getD rm false]) ++ R.says.drop (rm + 1)⟩ qn ((F111.same s118).le (by omega)) upd_same ⟨st, m, T5, ms, s18 _ _ upd_same, ta _ _ r1, ta _ _ r2, paired_mono r3 fun p m z => ta _ _ z, ?_⟩ ?_ hst (hq11.mono (tst s118)) qok qdp
    · have h16' := (s17.trans s18) _ _ h16
      rw [List.map_append, List.map_append, List.map_take, List.map_drop]
      exact h16'
    · refine ⟨O.n1, O.n4, O.st, O.s1, O.s2, O.mt, O.ml, ?_⟩
      show ((R.says.take rm ++ [!R.says.getD rm false]) ++ R.says.drop (rm + 1)).length = R.n
      rw [List.length_append, List.length_append, List.length_take, List.length_drop]
      show _ + 1 + _ = _
      omega
end
end PB
namespace PB
open PySem PySem.Spec PyProof.Rows L2
def stepB (mo : Nat) (r : List Int) : List (List Int) := (List.range ((mo : Int) + 1 - r.sum).toNat).map fun (m : Nat) => r ++ [(m : Int)]
def rowsB (mo : Nat) : Nat → List (List Int)
  | 0 => [[]]
  | i + 1 => (rowsB mo i).flatMap (stepB mo)
/-- the law's own beginnings, as they are listed -/
def lawB (mo S : Nat) : List (List Int) := (rowsB mo S).filter fun r => decide (1 ≤ r.sum)
def SM (S mo : Nat) : Prop := (S = 1 ∧ mo = 4) ∨ (S = 2 ∧ mo = 3)
theorem rowsB_few {S mo : Nat} (h : SM S mo) : ∀ i, i ≤ S → (rowsB mo i).length ≤ 10 ∧ ∀ r ∈ rowsB mo i, r.length = i ∧ 0 ≤ r.sum ∧ r.sum ≤ mo := by
  rcases h with ⟨rfl, rfl⟩ | ⟨rfl, rfl⟩
  · intro i hi
    have : i = 0 ∨ i = 1 := by omega
    rcases this with e | e <;> subst e <;> decide
  · intro i hi
    have : i = 0 ∨ i = 1 ∨ i = 2 := by omega
    rcases this with e | e | e <;> subst e <;> decide
theorem flat_take_le {α β : Type} (f : α → List β) : ∀ (l : List α) (j : Nat), ((l.take j).flatMap f).length ≤ (l.flatMap f).length
  | [], j => by rw [List.take_nil]; exact Nat.le_refl _
  | a :: l, 0 => Nat.zero_le _
  | a :: l, j + 1 => by
    have := flat_take_le f l j
    rw [List.take_succ_cons, List.flatMap_cons, List.flatMap_cons, List.length_append, List.length_append]
    omega
theorem tups_app {H : Hp} {ts us : List Addr} {l m : List (List Int)} (h : TupsAt H ts l) (h' : TupsAt H us m) : TupsAt H (ts ++ us) (l ++ m) := by
  induction h with
  | nil => exact h'
  | cons x _ ih => exact .cons x ih
section
variable {P : Program} {w : World} {K : PySem.W.Frag} {mg : Str → Option Value} {base : Heap}
def spLBegins : Sp := fun vs H Q _ => ∃ (S mo : Nat), vs = [.int (S : Int), .int 1, .int (mo : Int)] ∧ SM S mo ∧ ∀ H' p ts, Same H H' → H' p = some (.lst (ts.map V.ref)) → TupsAt H' ts (lawB mo S) → Q (.ref p) H'
theorem d_l_begins (Z : BN mg) (A : At K mg "_law_begins" s_l_begins ["_law_sorts", "_law_few", "_law_most"]) : Def P w K mg base 1 "_law_begins" ["_law_sorts", "_law_few", "_law_most"] [] spLBegins := by
  refine A.def sc_l_begins (fun vs H Q E h => ?_) (fun f cdv A outer s H vs Q E hr h => ?_)
  · obtain ⟨S, mo, rfl, _⟩ := h
    rfl
  obtain ⟨S, mo, rfl, sm, q⟩ := h
  have few := rowsB_few sm
  have S2 : S ≤ 2 := by rcases sm with ⟨h, _⟩ | ⟨h, _⟩ <;> omega
  have mo4 : mo ≤ 4 := by rcases sm with ⟨_, h⟩ | ⟨_, h⟩ <;> omega
  refine ⟨_, (pss_cons (ps_set (i := 3) sc_l_begins.nd rfl (Or.inl rfl) (pe_lst (pa_cons (pe_tup pa_nil) pa_nil)))
    (pss_cons (ps_for PassesOwn.never rfl (pi_range1 (by rfl) Z.range (pa_cons (pv 0) pa_nil)) (pg_name (i := 4) sc_l_begins.nd rfl (Or.inl rfl))
      (pss_cons (ps_set (i := 5) sc_l_begins.nd rfl (Or.inl rfl) (pe_lst pa_nil))
      (pss_cons (ps_for PassesOwn.never rfl (pi_list (pv 3)) (pg_name (i := 6) sc_l_begins.nd rfl (Or.inr rfl))
        (pss_one (ps_expr (pe_bm PySem.F.plainAttrs_list PySem.F.slot_list_extend PySem.F.type_list_extend mt_extend (pv 5) (pa_cons (pe_lc (own := [("_law_many_here", 7)]) (g := (gName 7)) rfl sc_l_begins.nd (pi_range1 (by rfl) Z.range (pa_cons (pe_op op_sub (pe_op op_add (pv 2) pe_int) (pe_callB (cr_sumT rfl) (by rfl) Z.sum (by decide +kernel) (pa_cons (pv 6) pa_nil))) pa_nil)) (blkOk_by (own := [("_law_many_here", 7)]) (N := N_l_begins) (sc := defScope s_l_begins) (by decide +kernel)) (fun _ _ _ _ _ => (pg_name (i := 7) sc_l_begins.nd rfl (Or.inl rfl))) (fun _ _ _ _ _ => pts_nil) (fun _ _ _ _ _ => (pe_op op_cat0 (pv 6) (pe_tup (pa_cons (pv 7) pa_nil))))) pa_nil)))))
      (pss_one (ps_set (i := 3) sc_l_begins.nd rfl (Or.inl rfl) (pv 5))))))
    (pss_one (ps_ret (pe_lc (own := [("_law_row", 6)]) (g := (gName 6)) rfl sc_l_begins.nd (pi_list (pv 3)) (blkOk_by (own := [("_law_row", 6)]) (N := N_l_begins) (sc := defScope s_l_begins) (by decide +kernel)) (fun _ _ _ _ _ => (pg_name (i := 6) sc_l_begins.nd rfl (Or.inl rfl))) (fun _ _ _ _ _ => pts_one (pt_cmpR op_le (pe_callB (call_max2 rfl) (by rfl) Z.max (by decide +kernel) (pa_cons (pv 1) (pa_cons pe_int pa_nil))) (pe_callB (cr_sumT rfl) (by rfl) Z.sum (by decide +kernel) (pa_cons (pv 6) pa_nil)) (by first | exact nomark _ | rfl))) (fun _ _ _ _ _ => (pv 6))))))), ?_⟩
  refine ⟨Nat.zero_le _, fun t0 ht0 => ⟨(by show 1 ≤ sizeLine; decide), fun rl hrl => ?_⟩⟩
  have s0 : Same H (upd H t0 (.tup [])) := same_new ht0
  have s1 := s0.trans (same_new (o := .lst [.ref t0]) hrl)
  refine ⟨_, rfl, (S : Int), rfl, by omega, by omega, for_it (walk_range (lo := 0) (n := (S : Int).toNat)) (fun i σ H' => ∃ v4 v5 v6 rl ts, σ = [some (.int (S : Int)), some (.int 1), some (.int (mo : Int)), some (.ref rl), v4, v5, v6, none] ∧ Same H H' ∧ H' rl = some (.lst (ts.map V.ref)) ∧ TupsAt H' ts (rowsB mo i))
    ⟨none, none, none, rl, [t0], rfl, s1, upd_same, .cons (same_new hrl _ _ upd_same) .nil⟩ (fun _ _ _ _ _ => trivial) ?_ ?_⟩
  · rintro i x σ H1 H1' hi ⟨v4, v5, v6, rl, ts, rfl, sH, hl, hts⟩ ⟨rfl, rfl⟩
    have hi : i < (S : Int).toNat := hi
    obtain ⟨fi1, fi2⟩ := few i (by omega)
    obtain ⟨fj1, _⟩ := few (i + 1) (by omega)
    refine ⟨Nat.zero_le _, fun lg hlg => ?_⟩
    have s2 : Same H1' (upd H1' lg (.lst [])) := same_new hlg
    refine ⟨_, rfl, rl, rfl, ⟨_, SqL.of (s2 _ _ hl)⟩, for_it walk_list (fun j σ H' => ∃ v4 v6 ts', σ = [some (.int (S : Int)), some (.int 1), some (.int (mo : Int)), some (.ref rl), v4, some (.ref lg), v6, none] ∧ Same H1' H' ∧ H' lg = some (.lst (ts'.map V.ref)) ∧ TupsAt H' ts' (((rowsB mo i).take j).flatMap (stepB mo)))
      ⟨_, _, [], rfl, s2, upd_same, .nil⟩ (fun j σ H' _ ⟨_, _, _, _, e, _⟩ => SqL.of (e _ _ hl)) ?_ ?_⟩
    · rintro j x σ H3 H3' hj ⟨v4, v6, ts', rfl, s3, hlg3, hts3⟩ ⟨rfl, hx⟩
      have hj' : j < ts.length := by rwa [List.length_map] at hj
      obtain ⟨t, hT⟩ : ∃ T, ts[j]? = some T := ⟨ts[j], List.getElem?_eq_getElem hj'⟩
      obtain rfl := ref_at hx hT
      obtain ⟨row, hrow, hTk⟩ := paired_getL (F := fun t (ns : List Int) => H1' t = some (.tup (ns.map V.int))) hts hT
      have ht3 := s3 _ _ hTk
      obtain ⟨b1, b2, b3⟩ := fi2 row (List.mem_of_getElem? hrow)
      refine ⟨_, rfl, .inl ⟨rfl, _, SqL.of hlg3⟩, ?_⟩
      refine ⟨_, rfl, _, _, rfl, rfl, _, rfl, t, row, rfl, ht3, _, _, rfl, rfl, _, rfl, by show -(2 ^ 62) ≤ (mo : Int) + 1 - row.sum; omega, by show (mo : Int) + 1 - row.sum < 2 ^ 62; omega, fun D hD => lc_it (walk_range (lo := 0)) (fun i H' => Same H3' H' ∧ ∃ us, H' D = some (.lst (us.map V.ref)) ∧ TupsAt H' us ((List.range i).map fun (m : Nat) => row ++ [(m : Int)]))
        ⟨same_new hD, [], upd_same, .nil⟩ (fun _ _ _ _ => trivial) ?_ ?_⟩
      · rintro m x H4 H4' hm ⟨s4, us, hD4, hus⟩ ⟨rfl, rfl⟩
        have hm : m < ((mo : Int) + 1 - row.sum).toNat := hm
        refine ⟨rfl, _, rfl, _, rfl, (by show 1 ≤ sizeLine; decide), fun T hT' => ?_⟩
        have s5 := same_new (o := .tup [.int (0 + (m : Int))]) hT'
        have ul : us.length = _ := Paired.length hus
        rw [List.length_map, List.length_range] at ul
        refine cat3 (s5 _ _ (s4 _ _ ht3)) upd_same ?_ fun u H5 s6 hu => ?_
        · rw [List.length_map]
          show row.length + 1 ≤ 1000
          omega
        have s56 := s5.trans s6
        have hD5 := s56 _ _ hD4
        have t5 := (tst s56).trans (tst_lst (o := .lst (us.map V.ref ++ [.ref u])) hD5)
        refine ⟨_, hD5, by rw [List.length_map]; exact len_lt (by omega), same_upd (s4.trans s56) hD, us ++ [u], by rw [upd_same, List.map_append]; rfl, ?_⟩
        rw [List.range_succ, List.map_append]
        refine tups_snoc (tups_mono hus t5) (tst_lst (o := .lst (us.map V.ref ++ [.ref u])) hD5 _ _ ?_)
        rw [hu]
        show some (HO.tup (row.map V.int ++ [V.int (0 + (m : Int))])) = some (HO.tup ((row ++ [(m : Int)]).map V.int))
        rw [Int.zero_add, List.map_append]
        rfl
      · rintro H4 ⟨s4, us, hD4, hus⟩
        have hus : TupsAt H4 us (stepB mo row) := hus
        have ul : us.length = _ := Paired.length hus
        have l1 : ts'.length = _ := Paired.length hts3
        have e1 : ((rowsB mo i).take (j + 1)).flatMap (stepB mo) = ((rowsB mo i).take j).flatMap (stepB mo) ++ stepB mo row := by
          rw [take_snoc hrow, List.flatMap_append]
          simp
        have l2 := flat_take_le (stepB mo) (rowsB mo i) (j + 1)
        rw [e1, List.length_append] at l2
        have l3 : ((rowsB mo i).flatMap (stepB mo)).length ≤ 10 := fj1
        refine ⟨lg, D, ts'.map V.ref, us.map V.ref, rfl, rfl, s4 _ _ hlg3, hD4, by rw [List.length_map, List.length_map]; exact small_le (by omega), ?_⟩
        refine ⟨_, _, ts' ++ us, rfl, same_upd (s3.trans s4) hlg, by rw [upd_same, List.map_append], ?_⟩
        rw [e1]
        have t6 : Tst H4 _ := tst_lst (o := .lst (ts'.map V.ref ++ us.map V.ref)) (s4 _ _ hlg3)
        exact tups_app (tups_mono hts3 ((tst s4).trans t6)) (tups_mono hus t6)
    · rintro σ H3 ⟨v4, v6, ts', rfl, s3, hlg3, hts3⟩
      have tl : (ts.map V.ref).length = (rowsB mo i).length := by rw [List.length_map]; exact Paired.length hts
      rw [tl, List.take_length] at hts3
      exact ⟨_, rfl, _, _, _, lg, ts', rfl, sH.trans s3, hlg3, hts3⟩
  rintro σ H1 ⟨v4, v5, v6, rl, ts, rfl, sH, hl, hts⟩
  have eS : (S : Int).toNat = S := by omega
  rw [eS] at hts
  obtain ⟨fi1, fi2⟩ := few S (Nat.le_refl S)
  have tl : ts.length = (rowsB mo S).length := Paired.length hts
  refine ⟨_, rfl, rl, rfl, ⟨_, SqL.of hl⟩, fun D hD => lc_it walk_list (fun i H' => Same H1 H' ∧ ∃ us, H' D = some (.lst (us.map V.ref)) ∧ TupsAt H' us (((rowsB mo S).take i).filter fun r => decide (1 ≤ r.sum)))
    ⟨same_new hD, [], upd_same, .nil⟩ (fun i H' _ e => SqL.of (e.1 _ _ hl)) ?_ ?_⟩
  · rintro i x H4 H4' hi ⟨s4, us, hD4, hus⟩ ⟨rfl, hx⟩
    have hi' : i < ts.length := by rwa [List.length_map] at hi
    obtain ⟨t, hT⟩ : ∃ T, ts[i]? = some T := ⟨ts[i], List.getElem?_eq_getElem hi'⟩
    obtain rfl := ref_at hx hT
    obtain ⟨row, hrow, hTk⟩ := paired_getL (F := fun t (ns : List Int) => H1 t = some (.tup (ns.map V.int))) hts hT
    have hTk4 := s4 _ _ hTk
    have ul : us.length = _ := Paired.length hus
    have hfs := List.length_filter_le (fun r => decide (1 ≤ r.sum)) ((rowsB mo S).take i)
    rw [List.length_take] at hfs
    refine ⟨rfl, _, rfl, _, _, rfl, _, rfl, t, row, rfl, hTk4, _, _, rfl, rfl, _, rfl, ?_⟩
    show if decide (1 ≤ row.sum) = true then _ else _
    rw [take_snoc hrow, List.filter_append]
    by_cases e : 1 ≤ row.sum
    · rw [decide_eq_true e]
      refine iteT ⟨_, rfl, _, hD4, by rw [List.length_map]; exact len_lt (by omega), same_upd s4 hD, us ++ [t], by rw [upd_same, List.map_append]; rfl, ?_⟩
      rw [show List.filter (fun r => decide (1 ≤ r.sum)) [row] = [row] from List.filter_cons_of_pos (decide_eq_true e)]
      have t5 : Tst H4' _ := tst_lst (o := .lst (us.map V.ref ++ [.ref t])) hD4
      exact tups_snoc (tups_mono hus t5) (t5 _ _ hTk4)
    · rw [decide_eq_false e]
      refine iteF ⟨s4, us, hD4, ?_⟩
      rw [show List.filter (fun r => decide (1 ≤ r.sum)) [row] = [] from List.filter_cons_of_neg (by rw [decide_eq_false e]; decide), List.append_nil]
      exact hus
  · rintro H4 ⟨s4, us, hD4, hus⟩
    rw [List.length_map, tl, List.take_length] at hus
    exact q H4 D us (sH.trans s4) hD4 hus
end
end PB
namespace PB
open PySem PySem.Spec PyProof.Rows L2 LamX
/-! ### the key of a row: its sum, then itself -/
def keyD (ns : List Int) : PyData := .tuple [.int ns.sum, .tuple (ns.map .int)]
theorem reads_ints {h : Heap} : ∀ {its : List Value} {ns : List Int}, IntsAre its ns → ReadsAll h its (ns.map .int) []
  | _, _, .nil => .nil
  | _, _, .cons _ _ t => ReadsAll.cons (.int _ _) (reads_ints t)
theorem depth_intsA : ∀ ns : List Int, PyData.depthAll (ns.map .int) ≤ 1
  | [] => by simp [PyData.depthAll]
  | n :: ns => by
    have := depth_intsA ns
    rw [List.map_cons]
    simp only [PyData.depthAll, PyData.depth]
    omega
theorem keyD_depth (ns : List Int) : (keyD ns).depth ≤ 5 := by
  have := depth_intsA ns
  unfold keyD
  simp only [PyData.depth, PyData.depthAll]
  omega
theorem alike_ints : ∀ ns ms : List Int, PySem.W.alikeAll (ns.map .int) (ms.map .int) = true
  | [], _ => by simp [PySem.W.alikeAll]
  | _ :: _, [] => by simp [PySem.W.alikeAll]
  | n :: ns, m :: ms => by
    rw [List.map_cons, List.map_cons]
    simp only [PySem.W.alikeAll, PySem.W.alike, Bool.true_and]
    exact alike_ints ns ms
section
variable {P : Program} {w : World} {A : Around} {E : Value → Shared → Prop} {s : Shared}
theorem key_turn {f c' b : Addr} {q x : Str} {params : Arguments} {scope : Scope} {pm ctv : Value} {p1 p2 p3 p4 p5 : Pos} {j : Nat} {mg mb : Str → Option Value} {ns : List Int} {its : List Value}
    (hd : A.handled = none) (hroom : A.depth < recursionLimit)
    (hf : s.heap.get? f = some (PySem.W.kla_obj "<lambda>" q params (.Tuple [.Call (.Name "sum" p1) [.Name x p2] [] p3, .Name x p4] j p5) scope [] pm c' ctv)) (hc : s.heap.CodeRec (.ref c') q)
    (hT : s.heap.IsTuple b its.toArray) (hi : IntsAre its ns)
    (hk : scope.kind = .function) (hco : scope.isCoroutine = false) (hgen : scope.isGenerator = false) (hcells : ∀ y ∈ scope.names, y.2 ≠ .cell) (hx : scope.names.lookup x = some .local) (hsum : scope.names.lookup ("sum" : Str) = some .globalImplicit)
    (hbind : bindArgs (PySem.W.kla_fn "<lambda>" q params (.Tuple [.Call (.Name "sum" p1) [.Name x p2] [] p3, .Name x p4] j p5) scope [] pm (.ref c') ctv) ⟨[.ref b], []⟩ = pure [(x, .ref b)]) (hxd : (x == ("__debug__" : Str)) = false)
    (lim : s.heap.NoLimit) (hg : s.heap.Ns mainGlobals mg) (hm : mg "sum" = none) (hbn : s.heap.Ns builtinsNs mb) (hb2 : mb "sum" = some (.builtin "sum")) :
    wpAny (model P w) A (call (.ref f) [.ref b]) (PySem.W.KeyPure (keyD ns) s) E s := by
  refine wpAny_call (codeAny_mono (R := fun r s' => match r with | .ok (.ret u) => PySem.W.KeyPure (keyD ns) s u s' | _ => False) ?_ (fun r s' hq => ?_))
  · refine PySem.W.kla_callFunE hroom hf rfl hco hgen rfl hc ?_
    rw [hbind]
    refine wpAny_pure (wpAny_newFunctionEnv hcells (fun y hy => by rw [List.mem_singleton.mp hy]; exact hx) (fun h₁ hns hsb => ⟨lim.fresh _ hsb, ?_⟩) hk)
    have kp : ∀ b o, s.heap.get? b = some o → h₁.get? b = some o := fun b o e => hsb.extBut b o (Nat.ne_of_lt (Heap.lt_size e)) (Heap.get?_push_of_some _ e)
    refine PySem.W.kla_codeExpr ?_
    refine wpAny_Tuple_spliced ?_
    refine Calls.spliced_cons ?_
    refine wpAny_Call_Name_kw (Calls.Name_function_global hk hsum (Calls.loadGlobal_builtin (hg.keeps kp) hm (hbn.keeps kp) hb2 ?_))
    refine PyProof.Rows.callWith_builtin1 (Calls.spliced_cons ?_) rfl rfl
    have hx1 : (fun y => ([(x, Value.ref b)] : List (Str × Value)).reverse.lookup y) x = some (.ref b) := by
      show List.lookup x [(x, Value.ref b)] = _
      rw [List.lookup_cons_self]
    refine wpAny_Name (wpAny_loadName_local hk hx hns hx1 ?_) hxd
    refine Calls.spliced_nil ?_
    have hiA := hi.allInts.items
    obtain ⟨xs, hxs⟩ := hiA
    have hn : numsOf its.toArray.toList = ns := by rw [show its.toArray.toList = its from rfl, hi.numsOf]
    have hT1 : h₁.IsTuple b its.toArray := by
      obtain ⟨o, ho, r⟩ := hT
      exact ⟨o, kp _ _ ho, r⟩
    rw [hxs] at hT1 hn
    rw [nums_intItems] at hn
    refine PySem.W.ktm_sumG hd hT1 fun h2 tk t2 hk2 => ?_
    rw [preSum_eq, List.take_of_length_le (by simp), hn]
    refine Calls.spliced_cons ?_
    refine wpAny_Name (wpAny_loadName_local hk hx (hns.keeps hk2) hx1 ?_) hxd
    refine Calls.spliced_nil ⟨(by show 2 ≤ sizeLine; decide), ?_⟩
    have kp3 : ∀ b o, s.heap.get? b = some o → (h2.push { cls := .type "tuple", data := .seq #[.int ns.sum t2, .ref b] }).get? b = some o := fun b o e => Heap.get?_push_of_some _ (hk2 _ _ (kp _ _ e))
    refine ⟨_, _, rfl, fun b o e => Heap.get?_push_of_some _ (hk2 _ _ (kp _ _ e)), ?_⟩
    obtain ⟨o, ho, hcl, n, hdt⟩ := hT
    exact Reads.tuple (as := [] ++ ([] ++ [])) (Heap.get?_push_size _ rfl) rfl rfl (ReadsAll.cons (.int _ _) (ReadsAll.cons (Reads.tuple (as := []) (Heap.get?_push_of_some _ (hk2 _ _ (kp _ _ ho))) hcl hdt (reads_ints hi)) .nil))
  · cases r with
    | error e => exact hq.elim
    | ok fl =>
      cases fl with
      | ret u => exact hq
      | next => exact hq.elim
      | brk => exact hq.elim
      | cont => exact hq.elim
end
/-- sorted(xs, key = the lambda): rows by sum, then in order -/
def tSortLam (T : List (Addr × Str)) (te : TE) : TE := fun σ H Q => te σ H fun x H1 => ∃ (l : Addr) (ts : List Addr) (rs : List (List Int)), x = .ref l ∧ H1 l = some (.lst (ts.map V.ref)) ∧ TupsAt H1 ts rs ∧ rs.length ≤ 100 ∧ Tabs T H1 ∧
  ∀ H2 p ts', ExtN H1 H2 → Tabs T H2 → H2 p = some (.lst (ts'.map V.ref)) → TupsAt H2 ts' (rs.mergeSort (PySem.W.dataLe false keyD)) → Q (.ref p) H2
def RowIs (H : Hp) (v : Value) (ns : List Int) : Prop := ∃ b, v = .ref b ∧ H b = some (iT ns)
theorem rows_is {H : Hp} : ∀ {ts : List Addr} {rs : List (List Int)}, TupsAt H ts rs → PySem.W.EachIs (RowIs H) (ts.map Value.ref) rs
  | _, _, .nil => .nil
  | _, _, .cons h t => .cons ⟨_, rfl, h⟩ (rows_is t)
theorem is_rows {H : Hp} : ∀ {vs : List Value} {rs : List (List Int)}, PySem.W.EachIs (RowIs H) vs rs → ∃ ts, vs = ts.map Value.ref ∧ TupsAt H ts rs
  | _, _, .nil => ⟨[], rfl, .nil⟩
  | _, _, .cons ⟨b, e, h⟩ t => by
    obtain ⟨ts, e2, h2⟩ := is_rows t
    exact ⟨b :: ts, by rw [e, e2]; rfl, .cons h h2⟩
theorem valsRef : ∀ ts : List Addr, Vals (ts.map V.ref) (ts.map Value.ref)
  | [] => .nil
  | _ :: ts => .cons rfl (valsRef ts)
theorem vals_refs : ∀ {ts : List Addr} {us : List Value}, Vals (ts.map V.ref) us → us = ts.map Value.ref
  | [], _, .nil => rfl
  | t :: ts, _, .cons h r => by
    rw [vals_refs r]
    have h : _ = Value.ref t := h
    rw [h]
    rfl
section
variable {X : Cx}
theorem pe_sortLam {T : List (Addr × Str)} {c P : Addr} {e : Expr} {te : TE} {params : Arguments} {scope : Scope} {x : Str} {p p1 p2 p3 p4 p5 lpos kpos pos : Pos} {j k : Nat} (hg : Gl X "sorted") (hm : X.mg "sorted" = none) (hms : X.mg "sum" = none) (he : PE X e te)
    (TB : TabB X.base X.mg c P) (hcode : X.env.code = .ref c) (hmT : (P, X.env.qual ++ "<lambda>") ∈ T) (hu : ∀ p ∈ T, p.1 = P → p.2 = X.env.qual ++ "<lambda>") (hr : Room k X.A) (hdef : defaultsOf params X.env = ([], []))
    (hcl : ∀ cells : List (Str × Addr), cloFrom cells scope.names [] = []) (hfree : ∀ y ∈ scope.names, y.2 ≠ .free)
    (hk : scope.kind = .function) (hco : scope.isCoroutine = false) (hgen : scope.isGenerator = false) (hcells : ∀ y ∈ scope.names, y.2 ≠ .cell) (hx : scope.names.lookup x = some .local) (hsum : scope.names.lookup ("sum" : Str) = some .globalImplicit) (hxd : (x == ("__debug__" : Str)) = false)
    (hbind : ∀ (q : Str) (pm cv ctv : Value) (b : Addr), bindArgs (PySem.W.kla_fn "<lambda>" q params (.Tuple [.Call (.Name "sum" p1) [.Name x p2] [] p3, .Name x p4] j p5) scope [] pm cv ctv) ⟨[.ref b], []⟩ = pure [(x, .ref b)])
    (hse : backTo pos (starEach [e] X.env) = (false, eval e X.env) :: backTo pos (starEach [] X.env) := by rfl) (hpl : (backTo pos (starEach [e] X.env)).any (·.1) = false := by rfl) :
    PE X (.Call (.Name "sorted" p) [e] [⟨some "key", .Lambda params (.Tuple [.Call (.Name "sum" p1) [.Name x p2] [] p3, .Name x p4] j p5) scope lpos, kpos⟩] pos) (tSortLam T te) := by
  refine ⟨fun pins s σ H Q I h => ?_⟩
  refine wpAny_Call_Name_kw (ld_blt (u := .builtin "sorted") I hg hm (by rfl) ?_)
  refine PyProof.Rows.callWith_kw ?_ hse hpl rfl rfl
  rw [hse]
  refine Calls.spliced_cons (thn (he.run pins s σ H _ I h) fun u s1 ⟨v, H1, I1, r1, q1⟩ => ?_)
  obtain ⟨l, ts, rs, ev, hl, hts, h100, hT, q⟩ := q1
  subst ev
  obtain rfl : u = Value.ref l := r1
  refine Calls.spliced_nil ?_
  show wpAny _ _ (evalAll ((do let v ← eval (.Lambda params _ scope lpos) X.env; standAt pos; pure v) :: [])) _ _ s1
  refine wpAny_evalAll_cons (wpAny_bind (lam_make2 I1 TB hcode hmT hu hT hdef (fun y hy e => absurd e (hfree y hy)) fun f c' pm ctv H2 s2 I2 eN T2 hf hfn hfr hco2 => wpAny_bind (wpAny_standAt (wpAny_pure (wpAny_evalAll_nil ?_)))))
  show wpAny _ _ (call (.builtin "sorted") [.ref l] [(Str.ofString "key", .ref f)]) _ _ s2
  rw [hcl] at hf
  have hl2 : H2 l = some (.lst (ts.map V.ref)) := eN _ _ hl (fun ps z => by cases z)
  have hts2 : TupsAt H2 ts rs := paired_mono hts fun t ns z => eN _ _ z (fun ps z => by cases z)
  obtain ⟨its, rv, pl, hz⟩ := I2.list (SqL.of hl2)
  obtain rfl := vals_refs rv
  obtain ⟨mb, hmb1, hmb2⟩ := I2.mod.blt
  have un := hr.un
  have hcr : s2.heap.CodeRec (.ref c') (X.env.qual ++ "<lambda>") := by
    obtain ⟨⟨oc, vs, t, h1, h2, h3⟩, _, _⟩ := I2.hok c' _ hco2
    exact ⟨c', oc, vs, t, rfl, h1, h2, h3⟩
  have tl : ts.length = rs.length := Paired.length hts
  refine PySem.W.sorted_key_data (b := false) (R := RowIs H2) keyD pl.isList (rows_is hts2) (PySem.W.AllAlike.of fun _ _ => ?_) (PySem.W.Sortable.tuples fun _ => ⟨_, _, rfl⟩) (by rw [sizeLine_eq]; omega) (fun y _ => ?_) (ksk_s1 _ _) (fun _ => ksk_l1 _ _) (fun _ => ksk_t1 _ _)
    (fun v y hv _ hp tk kp => ?_) fun out cc h' tk kp hfresh hD hlen eo => ?_
  · unfold keyD
    simp only [PySem.W.alike, PySem.W.alikeAll, Bool.true_and, Bool.and_true]
    exact alike_ints _ _
  · have := keyD_depth y
    omega
  · obtain ⟨b, rfl, hb⟩ := hv
    obtain ⟨its, rv2, hT2, _⟩ := I2.tuple (SqT.of hb)
    have hi := rv2.ints
    have kpT : (Shared.heap { s2 with heap := hp, toks := tk }).IsTuple b its.toArray := by
      obtain ⟨o, ho, r⟩ := (show s2.heap.IsTuple b its.toArray from hT2)
      exact ⟨o, kp _ _ ho, r⟩
    have kpC : (Shared.heap { s2 with heap := hp, toks := tk }).CodeRec (.ref c') (X.env.qual ++ "<lambda>") := by
      obtain ⟨c2, oc, vs, t, e1, e2, e3⟩ := hcr
      exact ⟨c2, oc, vs, t, e1, kp _ _ e2, e3⟩
    exact key_turn (s := { s2 with heap := hp, toks := tk }) hr.hd hr.depth (kp _ _ hf) kpC kpT hi hk hco hgen hcells hx hsum (hbind _ _ _ _ _) hxd (I2.nolimit.keeps kp) ((I2.mod.glob.keeps I2.bk).keeps kp) hms ((hmb1.keeps I2.bk).keeps kp) ((hmb2 "sum" (by decide)).trans rfl)
  · obtain ⟨ts', rfl, hts'⟩ := is_rows eo
    have hn : H2 (s2.heap.objs.size + 1) = none := I2.hok.fresh (Nat.le_succ _)
    have tl' : ts'.length = rs.length := by
      rw [List.length_map] at hlen
      exact hlen
    have new : ObjOk X.prog X.w (upd H2 (s2.heap.objs.size + 1) (.lst (ts'.map V.ref))) h' (s2.heap.objs.size + 1) (.lst (ts'.map V.ref)) :=
      ⟨by rw [List.length_map, sizeLine_eq]; omega, ts'.map Value.ref, cc, valsRef ts', hD⟩
    have I3 := I2.laid (t' := tk) kp (Nat.le_succ _) new
    have sN : Same H2 (upd H2 (s2.heap.objs.size + 1) (.lst (ts'.map V.ref))) := same_new hn
    exact ⟨.ref (s2.heap.objs.size + 1), _, I3, rfl, q _ _ ts' (eN.trans (ExtN.of sN)) (T2.ext sN) upd_same (paired_mono hts' fun t ns z => sN _ _ z)⟩
end
end PB
namespace PB
open PySem PySem.Spec PyProof.Rows L2
theorem sorted_unique {α : Type} {le : α → α → Bool} : ∀ {l m : List α}, l.Perm m → l.Pairwise (fun a b => le a b = true) → m.Pairwise (fun a b => le a b = true) → (∀ a ∈ m, ∀ b ∈ m, le a b = true → le b a = true → a = b) → l = m
  | [], m, p, _, _, _ => (List.nil_perm.mp p).symm
  | a :: l, [], p, _, _, _ => absurd p.length_eq (by simp)
  | a :: l, b :: m, p, h1, h2, hu => by
    obtain ⟨a1, a2⟩ := List.pairwise_cons.mp h1
    obtain ⟨b1, b2⟩ := List.pairwise_cons.mp h2
    have ha : a ∈ b :: m := p.mem_iff.mp List.mem_cons_self
    have hb : b ∈ a :: l := p.mem_iff.mpr List.mem_cons_self
    have e : a = b := by
      rcases List.mem_cons.mp ha with z | z
      · exact z
      · rcases List.mem_cons.mp hb with y | y
        · exact y.symm
        · exact hu a ha b List.mem_cons_self (a1 b y) (b1 a z)
    subst e
    rw [sorted_unique (List.Perm.cons_inv p) a2 b2 fun x hx y hy => hu x (List.mem_cons_of_mem _ hx) y (List.mem_cons_of_mem _ hy)]
theorem pw_all {α : Type} {le : α → α → Bool} : ∀ {l : List α}, (∀ i j : Fin l.length, i.1 < j.1 → le l[i] l[j] = true) → l.Pairwise (fun a b => le a b = true) := fun {l} h => List.pairwise_iff_getElem.mpr fun i j hi hj hij => h ⟨i, hi⟩ ⟨j, hj⟩ hij
theorem beg1_sorted : (begAll 1 4).Pairwise (fun a b => PySem.W.dataLe false keyD a b = true) := by decide +kernel
theorem beg2_sorted : (begAll 2 3).Pairwise (fun a b => PySem.W.dataLe false keyD a b = true) := by decide +kernel
theorem beg1_anti : ∀ a ∈ begAll 1 4, ∀ b ∈ begAll 1 4, PySem.W.dataLe false keyD a b = true → PySem.W.dataLe false keyD b a = true → a = b := by decide +kernel
theorem beg2_anti : ∀ a ∈ begAll 2 3, ∀ b ∈ begAll 2 3, PySem.W.dataLe false keyD a b = true → PySem.W.dataLe false keyD b a = true → a = b := by decide +kernel
theorem perm1 : (lawB 4 1).Perm (begAll 1 4) := by decide +kernel
theorem perm2 : (lawB 3 2).Perm (begAll 2 3) := by decide +kernel
theorem tot : PySem.W.TotalLe (PySem.W.dataLe false keyD) := PySem.W.sortLe_total (listOrd itemOrd) false fun b : List Int => PySem.W.keyToks (keyD b)
theorem srt (l : List (List Int)) : (l.mergeSort (PySem.W.dataLe false keyD)).Pairwise (fun a b => PySem.W.dataLe false keyD a b = true) := PySem.W.sort_pairwise tot l
theorem sort_law {S mo : Nat} (h : SM S mo) : (lawB mo S).mergeSort (PySem.W.dataLe false keyD) = begAll S mo := by
  rcases h with ⟨rfl, rfl⟩ | ⟨rfl, rfl⟩
  · exact sorted_unique ((List.mergeSort_perm _ _).trans perm1) (srt _) beg1_sorted beg1_anti
  · exact sorted_unique ((List.mergeSort_perm _ _).trans perm2) (srt _) beg2_sorted beg2_anti
end PB
namespace PB
open PySem PySem.Spec PyProof.Rows L2 LamX
/-- what the law's first one is -/
def FirstIs (H : Hp) (R : Rule) (q : Qn) (l : List (List Int)) (v : V) : Prop :=
  (v = .non ∧ ∀ cs ∈ l, Ans R q cs) ∨ ∃ l1 cs l2 a, l = l1 ++ cs :: l2 ∧ (∀ x ∈ l1, Ans R q x) ∧ ¬ Ans R q cs ∧ v = .ref a ∧ H a = some (iT cs)
theorem FirstIs.mono {H H' : Hp} {R : Rule} {q : Qn} {l : List (List Int)} {v : V} (F : FirstIs H R q l v) (s : Same H H') : FirstIs H' R q l v := by
  rcases F with h | ⟨l1, cs, l2, a, h1, h2, h3, h4, h5⟩
  · exact .inl h
  · exact .inr ⟨l1, cs, l2, a, h1, h2, h3, h4, s _ _ h5⟩
theorem FirstIs.ans {H : Hp} {R : Rule} {q : Qn} {l : List (List Int)} {v : V} {cs : List Int} (F : FirstIs H R q l v) (h : Ans R q cs) : FirstIs H R q (l ++ [cs]) v := by
  rcases F with ⟨h1, h2⟩ | ⟨l1, c, l2, a, h1, h2, h3, h4, h5⟩
  · refine .inl ⟨h1, fun x hx => ?_⟩
    rcases List.mem_append.mp hx with z | z
    · exact h2 x z
    · rw [List.mem_singleton.mp z]; exact h
  · exact .inr ⟨l1, c, l2 ++ [cs], a, by rw [h1]; simp, h2, h3, h4, h5⟩
theorem FirstIs.errs {H : Hp} {R : Rule} {q : Qn} {l : List (List Int)} {v : V} {cs : List Int} {a : Addr} (F : FirstIs H R q l v) (h : ¬ Ans R q cs) (ha : H a = some (iT cs)) : (v = .non → FirstIs H R q (l ++ [cs]) (.ref a)) ∧ (v ≠ .non → FirstIs H R q (l ++ [cs]) v) := by
  rcases F with ⟨h1, h2⟩ | ⟨l1, c, l2, a', h1, h2, h3, h4, h5⟩
  · exact ⟨fun _ => .inr ⟨l, cs, [], a, rfl, h2, h, rfl, ha⟩, fun z => absurd h1 z⟩
  · refine ⟨fun z => ?_, fun _ => .inr ⟨l1, c, l2 ++ [cs], a', by rw [h1]; simp, h2, h3, h4, h5⟩⟩
    rw [z] at h4
    cases h4
theorem first_same {p : List Int → Prop} : ∀ {l1 l1' l2 l2' : List (List Int)} {c c' : List Int}, l1 ++ c :: l2 = l1' ++ c' :: l2' → (∀ x ∈ l1, p x) → ¬ p c → (∀ x ∈ l1', p x) → ¬ p c' → c = c'
  | [], [], _, _, _, _, e, _, _, _, _ => by injection e
  | [], x :: l1', _, _, c, c', e, _, h2, h3, _ => by
    injection e with e1 e2
    exact absurd (by rw [e1]; exact h3 x List.mem_cons_self) h2
  | x :: l1, [], _, _, c, c', e, h1, _, _, h4 => by
    injection e with e1 e2
    exact absurd (by rw [← e1]; exact h1 x List.mem_cons_self) h4
  | x :: l1, y :: l1', _, _, c, c', e, h1, h2, h3, h4 => by
    injection e with e1 e2
    exact first_same e2 (fun z hz => h1 z (List.mem_cons_of_mem _ hz)) h2 (fun z hz => h3 z (List.mem_cons_of_mem _ hz)) h4
theorem mem_begAll {S n : Nat} {cs : List Int} (h : cs ∈ begAll S n) : ∃ i, i < n ∧ cs ∈ begL S (i + 1) := by
  unfold begAll at h
  obtain ⟨i, hi, hc⟩ := List.mem_flatMap.mp h
  exact ⟨i, List.mem_range.mp hi, hc⟩
abbrev lawTab (Pt : Addr) : List (Addr × Str) := [(Pt, (envOfC "law" (defScope s_law) 0 0 .none).qual ++ "<lambda>")]
theorem ExtN.tst {H H' : Hp} (e : ExtN H H') : Tst H H' := fun b xs h => e b _ h fun ps z => by cases z
theorem ExtN.same {H H' : Hp} (s : Same H H') : ExtN H H' := fun b o h _ => s b o h
theorem sqL_ext {K : PySem.W.Frag} {H H' : Hp} {a : Addr} {xs : List V} (h : SqL K H a xs) (e : ExtN H H') : SqL K H' a xs := by
  rcases h with (h | ⟨o, h⟩) | h
  · exact .inl (.inl (e _ _ h fun ps z => by cases z))
  · exact .inl (.inr ⟨o, e _ _ h fun ps z => by cases z⟩)
  · exact .inr h
section
variable {P : Program} {w : World} {K : PySem.W.Frag} {mg : Str → Option Value} {base : Heap}
def spLaw (K : PySem.W.Frag) (Pt : Addr) : Sp := fun vs H Q _ => ∃ (sc : Addr) (zs : List Int), vs = [.ref sc] ∧ SqL K H sc (zs.map V.int) ∧ zs.length ≤ 100000 ∧ H Pt = some (.tbl #[]) ∧ ∀ H', Q (.bl true) H'
theorem law_fn {f c Pt : Addr} {oc : Value} {od an : Option Addr} {osl : Array (Option Value)} {kV doc pm ct dV : Value} (Z : BN mg) (lk : K.lookup f = some ⟨oc, od, .func (PySem.W.fnOf "law" "law" (defArgs s_law) (defBody s_law) (defScope s_law) dV kV doc pm an (.ref c) ct), osl⟩) (hcd : PySem.W.codeIn K (.ref c) "law" = true) (TB : TabB base mg c Pt)
    (D_l_feed : Def P w K mg base 1 "_law_feed" ["_law_script", "_law_k"] [] (spFeed K)) (D_l_next : Def P w K mg base 1 "_law_next" ["_law_feed_here", "_law_many_here"] [] spNext)
    (D_l_rule : Def P w K mg base 3 "_law_rule" ["_law_feed_here", "_law_most", "_law_sorts"] [] spRule) (D_l_question : Def P w K mg base 7 "_law_question" ["_law_feed_here", "_law_sorts", "_law_size", "_law_deep"] [] (spQuestion 4))
    (D_l_near : Def P w K mg base 5 "_law_near" ["_law_feed_here", "_law_sorts"] [] spNear) (D_l_begins : Def P w K mg base 1 "_law_begins" ["_law_sorts", "_law_few", "_law_most"] [] spLBegins)
    (D_l_answers : Def P w K mg base 5 "_law_answers" ["_law_rule_here", "_law_question_here", "_law_counts"] [] spLAnswers) (D_err_at : Def P w K mg base 7 "err_at" ["rule", "question", "counts", "limit"] [.int 1000] spErrAt)
    (D_answers : Def P w K mg base 7 "answers" ["rule", "question", "counts", "limit"] [.int 1000] spAnswers) (D_lets_err : Def P w K mg base 6 "lets_err" ["rule", "question", "thing"] [] spLetsErr)
    (D_err_of : Def P w K mg base 8 "err_of" ["rule", "question", "most", "limit"] [.int 1000] spErrOf) :
    FnOk P w K mg base CX0 9 f (PySem.W.fnOf "law" "law" (defArgs s_law) (defBody s_law) (defScope s_law) dV kV doc pm an (.ref c) ct) ["_law_script"] (spLaw K Pt) := by
  refine fn_of lk hcd sc_law (fun vs H Q E h => ?_) fun A outer s H vs Q E hr h => ?_
  · obtain ⟨sc, zs, rfl, _⟩ := h
    rfl
  obtain ⟨sc, zs, rfl, hsc, hzl, hPt, q⟩ := h
  have T0 : Tabs (lawTab Pt) H := fun p hp => by
    rw [List.mem_singleton.mp hp]
    exact TabS.nil hPt
  refine ⟨_, PSs.nox (by exact (pss_cons (ps_for PassesOwn.never rfl (pi_range1 (by rfl) Z.range (pa_cons (pe_op op_add pe_int (pe_callB (call_min2 rfl) (by rfl) Z.min (by decide +kernel) (pa_cons pe_int (pa_cons (pe_callB call_len_seq (by rfl) Z.len (by decide +kernel) (pa_cons (pv 0) pa_nil)) pa_nil)))) pa_nil)) (pg_name (i := 1) sc_law.nd rfl (Or.inl rfl))
      (pss_cons (ps_set (i := 2) sc_law.nd rfl (Or.inl rfl) (pe_def D_l_feed hr rfl (pa_cons (pv 0) (pa_cons (pv 1) pa_nil))))
      (pss_cons (ps_set (i := 3) sc_law.nd rfl (Or.inl rfl) (pe_op op_add pe_int (pe_def D_l_next hr rfl (pa_cons (pv 2) (pa_cons pe_int pa_nil)))))
      (pss_cons (ps_par (i := 4) (j := 5) rfl sc_law.nd rfl rfl (by decide) rfl rfl (pa_cons (pe_def D_l_rule hr rfl (pa_cons (pv 2) (pa_cons pe_int (pa_cons (pv 3) pa_nil)))) (pa_cons (pe_def D_l_question hr rfl (pa_cons (pv 2) (pa_cons (pv 3) (pa_cons (pe_op op_add pe_int (pe_def D_l_next hr rfl (pa_cons (pv 2) (pa_cons pe_int pa_nil)))) (pa_cons pe_int pa_nil))))) pa_nil)) (by rfl))
      (pss_cons (ps_if (pt_cmpR op_eq (pe_def D_l_next hr rfl (pa_cons (pv 2) (pa_cons pe_int pa_nil))) pe_int (by first | exact nomark _ | rfl)) (pss_one (ps_asg (pe_def D_l_near hr rfl (pa_cons (pv 2) (pa_cons (pv 3) pa_nil))) (pg_tup0 rfl (pgs_cons (pg_name (i := 4) sc_law.nd rfl (Or.inl rfl)) (pgs_cons (pg_name (i := 5) sc_law.nd rfl (Or.inl rfl)) pgs_nil))))) pss_nil)
      (pss_cons (ps_set (i := 6) sc_law.nd rfl (Or.inl rfl) pe_non)
      (pss_cons (ps_set (i := 7) sc_law.nd rfl (Or.inl rfl) (pe_op op_sub pe_int (pe_callTy call_int1 (by rfl) Z.int (by decide +kernel) (pa_cons (pe_cmpR op_eq (pv 3) pe_int (by first | exact nomark _ | rfl)) pa_nil))))
      (pss_cons (ps_for PassesOwn.never rfl (pi_list (pe_sortLam (T := lawTab Pt) (by rfl) Z.sorted Z.sum (pe_def D_l_begins hr rfl (pa_cons (pv 3) (pa_cons pe_int (pa_cons (pv 7) pa_nil)))) TB (by rfl) (List.mem_singleton.mpr rfl) (fun p hp _ => by rw [List.mem_singleton.mp hp]; rfl) hr (by rfl) (fun _ => by rfl) (by decide +kernel) (by rfl) (by rfl) (by rfl) (by decide +kernel) (by rfl) (by rfl) (by decide +kernel) (fun _ _ _ _ _ => by rfl))) (pg_name (i := 8) sc_law.nd rfl (Or.inl rfl))
        (pss_cons (ps_set (i := 9) sc_law.nd rfl (Or.inl rfl) (pe_def D_l_answers hr rfl (pa_cons (pv 4) (pa_cons (pv 5) (pa_cons (pv 8) pa_nil)))))
        (pss_cons (ps_set (i := 10) sc_law.nd rfl (Or.inl rfl) (pe_def D_err_at hr rfl (pa_cons (pv 4) (pa_cons (pv 5) (pa_cons (pv 8) pa_nil)))))
        (pss_cons (ps_if (PW.pt (pw_or (pt_cmpR op_ne (pe_callB cr_reprB (by rfl) Z.repr (by decide +kernel) (pa_cons (pe_def D_answers hr rfl (pa_cons (pv 4) (pa_cons (pv 5) (pa_cons (pv 8) pa_nil)))) pa_nil)) (pe_callB cr_reprB (by rfl) Z.repr (by decide +kernel) (pa_cons (pv 9) pa_nil)) (by first | exact nomark _ | rfl)) (pw_or1 (pt_cmpR op_ne (pe_cmpR op_isN (pv 10) pe_non (by first | exact nomark _ | rfl)) (pv 9) (by first | exact nomark _ | rfl))))) (pss_one (ps_ret pe_bl)) pss_nil)
        (pss_cons (ps_if (PW.pt (pw_and (pt_not (pt_val (pv 9))) (pw_and1 (pt_cmpR (op_neTup hr) (pe_ix ix_tup0 (pv 10) pe_int (fun _ _ => rfl)) (pv 8) (by first | exact nomark _ | rfl))))) (pss_one (ps_ret pe_bl)) pss_nil)
        (pss_cons (ps_if (PW.pt (pw_and (pt_not (pt_val (pv 9))) (pw_and1 (pt_cmpR op_isnot_bl (pe_def D_lets_err hr rfl (pa_cons (pv 4) (pa_cons (pv 5) (pa_cons (pv 10) pa_nil)))) pe_bl (by first | exact nomark _ | rfl))))) (pss_one (ps_ret pe_bl)) pss_nil)
        (pss_one (ps_set (i := 6) sc_law.nd rfl (Or.inl rfl) (pe_ifExp (PW.pt (pw_and (pt_cmpR op_isN (pv 6) pe_non (by first | exact nomark _ | rfl)) (pw_and1 (pt_not (pt_val (pv 9)))))) (pv 8) (pv 6))))))))))
      (pss_cons (ps_set (i := 10) sc_law.nd rfl (Or.inl rfl) (pe_def D_err_of hr rfl (pa_cons (pv 4) (pa_cons (pv 5) (pa_cons (pv 7) pa_nil)))))
      (pss_cons (ps_if (pt_cmpR (op_neTup hr) (pe_ifExp (pt_cmpR op_isN (pv 10) pe_non (by first | exact nomark _ | rfl)) pe_non (pe_ix ix_tup0 (pv 10) pe_int (fun _ _ => rfl))) (pv 6) (by first | exact nomark _ | rfl)) (pss_one (ps_ret pe_bl)) pss_nil)
      (pss_one (ps_if (PW.pt (pw_and (pt_cmpR op_notN (pv 6) pe_non (by first | exact nomark _ | rfl)) (pw_and1 (pt_cmpR op_isnot_bl (pe_def D_lets_err hr rfl (pa_cons (pv 4) (pa_cons (pv 5) (pa_cons (pv 10) pa_nil)))) pe_bl (by first | exact nomark _ | rfl))))) (pss_one (ps_ret pe_bl)) pss_nil))))))))))))
    (pss_one (ps_ret pe_bl)))), ?_⟩
  -- for k in range(1 + min(3, len(script)))
  refine ⟨_, rfl, sc, _, rfl, .inl hsc, _, _, rfl, _, _, rfl, rfl, _, rfl, ?_, ?_, for_it (walk_range (lo := 0)) (fun i σ H' => ∃ v1 v2 v3 v4 v5 v6 v7 v8 v9 v10, σ = [some (.ref sc), v1, v2, v3, v4, v5, v6, v7, v8, v9, v10] ∧ ExtN H H' ∧ Tabs (lawTab Pt) H')
    ⟨_, _, _, _, _, _, _, _, _, _, rfl, ExtN.refl H, T0⟩ (fun _ _ _ _ _ => trivial) ?_ ?_⟩
  · split <;> omega
  · split <;> omega
  · rintro i x σ H1 H1' hi ⟨v1, v2, v3, v4, v5, v6, v7, v8, v9, v10, rfl, e1, T1⟩ ⟨rfl, hx⟩
    have hx : x = V.int (i : Int) := by
      rw [hx]
      show V.int (0 + (i : Int)) = _
      rw [Int.zero_add]
    subst hx
    have hi3 : i ≤ 3 := by
      have hi : i < ((1 : Int) + (if (((zs.map V.int).length : Nat) : Int) < 3 then (((zs.map V.int).length : Nat) : Int) else 3)).toNat := hi
      split at hi <;> omega
    have hsc1 := sqL_ext hsc e1
    -- feed, sorts, rule, question
    refine ⟨_, rfl, _, rfl, sc, i, zs, rfl, hsc1, hi3, fun H2 fd s2 hfd F2 => ?_⟩
    refine ⟨_, rfl, fd, 2, 0, rfl, F2, by decide, by decide, by decide, fun H3 d F3 hd => ?_⟩
    refine ⟨_, _, rfl, rfl, ?_⟩
    obtain ⟨S, eS, S1, S2⟩ : ∃ S : Nat, (1 : Int) + (d : Int) = (S : Int) ∧ 1 ≤ S ∧ S ≤ 2 := ⟨1 + d, by omega, by omega, by omega⟩
    dsimp only
    rw [eS]
    clear eS
    refine ⟨_, rfl, _, rfl, fd, S, 1, rfl, F3.feed, by decide, S1, S2, fun H4 r R F4 hR O hst => ?_⟩
    refine ⟨_, rfl, _, rfl, _, rfl, fd, 3, 101, rfl, F4.feed, by decide, by decide, by decide, fun H5 m F5 hm => ?_⟩
    refine ⟨_, _, rfl, rfl, fd, S, m + 1, 102, 3, ?_, F5.feed, by omega, S1, S2, by omega, by omega, by omega, fun H6 b qn F6 hq qok qdp => ?_⟩
    · show [V.ref fd, V.int (S : Int), V.int (1 + (m : Int)), V.int 3] = [V.ref fd, V.int (S : Int), V.int ((m + 1 : Nat) : Int), V.int 3]
      rw [show (1 : Int) + (m : Int) = ((m + 1 : Nat) : Int) by omega]
    refine ⟨_, _, rfl, ?_⟩
    have F46 := F5.trans F6
    have hR6 := hR.mono (F46.tst F4.feed)
    have F26 := (F3.trans F4).trans F46
    have s26 : Same H1' H6 := fun b o h => F26.keep b o (fun e => by rw [e, hfd] at h; cases h) (s2 b o h)
    refine ⟨_, rfl, fd, 3, 102 + (m + 1) * 20, rfl, F6.feed, by omega, by decide, by decide, fun H7 y F7 hy => ?_⟩
    have s7 : Same H1' H7 := fun b o h => F7.keep b o (fun e => by rw [e, hfd] at h; cases h) (s26 b o h)
    have t7 := F7.tst F6.feed
    refine ⟨rfl, _, rfl, ite2 (fun _ => ?_) (fun _ => ?_)⟩
    · refine ⟨_, rfl, _, rfl, fd, S, 102 + (m + 1) * 20 + 1, rfl, F7.feed, by omega, S1, S2, fun H8 p2 r2 b2 R2 q2 F8 hp2 hR2 O2 hst2 hq2 qok2 qdp2 => ?_⟩
      refine ⟨p2, _, rfl, Rd.of hp2, rfl, _, _, rfl, _, _, rfl, rfl, ?_⟩
      have s8 : Same H1' H8 := fun b o h => F8.keep b o (fun e => by rw [e, hfd] at h; cases h) (s7 b o h)
      have qdp2' : q2.dp < 3 := by omega
      have T8 : Tabs (lawTab Pt) H8 := T1.ext s8
      obtain ⟨mo, emo, sm⟩ : ∃ mo : Nat, (4 : Int) - (if decide (V.int (S : Int) = V.int 2) = true then 1 else 0) = (mo : Int) ∧ SM S mo := by
        have : S = 1 ∨ S = 2 := by omega
        rcases this with e | e <;> subst e
        · exact ⟨4, rfl, .inl ⟨rfl, rfl⟩⟩
        · exact ⟨3, rfl, .inr ⟨rfl, rfl⟩⟩
      have mo4 : mo ≤ 4 := by rcases sm with ⟨_, h⟩ | ⟨_, h⟩ <;> omega
      refine ⟨_, rfl, rfl, .inr ⟨_, rfl, _, _, rfl, rfl, ?_⟩⟩
      dsimp only
      rw [emo]
      clear emo
      -- for counts in sorted(..)
      refine ⟨_, rfl, _, rfl, S, mo, rfl, sm, fun H10 pl ts s10 hpl hts => ⟨pl, ts, lawB mo S, rfl, hpl, hts, ?_, T8.ext s10, fun H11 p ts' eN T11 hp hts' => ?_⟩⟩
      · rcases sm with ⟨rfl, rfl⟩ | ⟨rfl, rfl⟩ <;> decide
      rw [sort_law sm] at hts'
      have t11 : Tst H8 H11 := (tst s10).trans (ExtN.tst eN)
      have hR11 := (hR2).mono t11
      have hq11 := (hq2).mono t11
      have e11 : ExtN H H11 := (e1.trans (ExtN.same s8)).trans ((ExtN.same s10).trans eN)
      have tl : (ts'.map V.ref).length = (begAll S mo).length := by rw [List.length_map]; exact Paired.length hts'
      refine ⟨p, rfl, ⟨_, SqL.of hp⟩, for_it walk_list (fun j σ H' => ∃ v8 v9 v10 fst, σ = [some (.ref sc), some (.int (i : Int)), some (.ref fd), some (.int (S : Int)), some (.ref r2), some (.ref b2), some fst, some (.int (mo : Int)), v8, v9, v10] ∧ Same H11 H' ∧ FirstIs H' R2 q2 ((begAll S mo).take j) fst)
        ⟨_, _, _, _, rfl, Same.refl _, .inl ⟨rfl, fun cs hc => (by cases hc)⟩⟩ (fun j σ H' _ ⟨_, _, _, _, _, h, _⟩ => SqL.of (h _ _ hp)) ?_ ?_⟩
      · rintro j x σ H12 H12' hj ⟨w8, w9, w10, fst, rfl, s12, FI⟩ ⟨rfl, hx⟩
        have hj' : j < ts'.length := by rwa [List.length_map] at hj
        obtain ⟨a, hT⟩ : ∃ T, ts'[j]? = some T := ⟨ts'[j], List.getElem?_eq_getElem hj'⟩
        obtain rfl := ref_at hx hT
        obtain ⟨cs, hcs, ha⟩ := paired_getL (F := fun t (ns : List Int) => H11 t = some (.tup (ns.map V.int))) hts' hT
        obtain ⟨h0, hh0, hcb⟩ := mem_begAll (List.mem_of_getElem? hcs)
        have AS : Asked R2 q2 cs := asked_beg (h := h0 + 1) O2 qdp2' (by rw [hst2]; exact qok2) (by omega) (by omega) (by rw [hst2]; exact hcb)
        refine ⟨_, rfl, _, rfl, _, rfl, r2, b2, a, R2, q2, cs, rfl, hR11.mono (tst s12), hq11.mono (tst s12), s12 _ _ ha, AS, fun H13 z s13 hz => ?_⟩
        have s113 := s12.trans s13
        have eT : (begAll S mo).take (j + 1) = (begAll S mo).take j ++ [cs] := take_snoc hcs
        rcases Classical.em (Ans R2 q2 cs) with hA | hA
        · obtain rfl : z = true := hz.mpr hA
          refine ⟨_, rfl, _, rfl, _, rfl, r2, b2, a, R2, q2, cs, rfl, hR11.mono (tst s113), hq11.mono (tst s113), s113 _ _ ha, AS, fun _ H14 s14 => ?_, fun hno => absurd hA hno⟩
          have s114 := s113.trans s14
          refine ⟨_, rfl, _, rfl, _, rfl, r2, b2, a, R2, q2, cs, rfl, hR11.mono (tst s114), hq11.mono (tst s114), s114 _ _ ha, AS, fun H15 ks ws ss rkw rks s15 GO => ⟨_, rfl, _, rfl, _, rfl, rfl, _, rfl, ?_⟩⟩
          have s115 := s114.trans s15
          rw [decide_eq_true (GO.ans.mpr hA)]
          refine ifW (by rw [decide_eq_true rfl]; rfl) ?_
          refine ⟨_, rfl, rfl, _, rfl, rfl, _, rfl, ifW (by decide +kernel) ?_⟩
          refine ⟨_, rfl, true, rfl, ifW rfl (iteF ?_)⟩
          refine ⟨_, rfl, true, rfl, ifW rfl (iteF ?_)⟩
          have FI5 : FirstIs H15 R2 q2 ((begAll S mo).take (j + 1)) fst := by
            rw [eT]
            exact (FI.mono ((s13.trans s14).trans s15)).ans hA
          by_cases hf : fst = .non
          · refine ⟨_, rfl, rfl, _, rfl, ifY (decide_eq_true hf) ⟨_, rfl, true, rfl, ifW rfl ⟨_, rfl, ?_⟩⟩⟩
            exact ⟨_, _, _, fst, rfl, s115, FI5⟩
          · refine ⟨_, rfl, rfl, _, rfl, ifW (decide_eq_false hf) (iteF ⟨_, rfl, ?_⟩)⟩
            exact ⟨_, _, _, fst, rfl, s115, FI5⟩
        · obtain rfl : z = false := by
            cases z with
            | false => rfl
            | true => exact absurd (hz.mp rfl) hA
          refine ⟨_, rfl, _, rfl, _, rfl, r2, b2, a, R2, q2, cs, rfl, hR11.mono (tst s113), hq11.mono (tst s113), s113 _ _ ha, AS, fun h => absurd h hA, fun _ H14 pp s14 hpp => ?_⟩
          have s114 := s113.trans s14
          refine ⟨_, rfl, _, rfl, _, rfl, r2, b2, a, R2, q2, cs, rfl, hR11.mono (tst s114), hq11.mono (tst s114), s114 _ _ ha, AS, fun H15 ks ws ss rkw rks s15 GO => ⟨_, rfl, _, rfl, _, rfl, rfl, _, rfl, ?_⟩⟩
          have s115 := s114.trans s15
          rw [decide_eq_false (fun e => hA (GO.ans.mp e))]
          refine ifW (by rw [decide_eq_true rfl]; rfl) ?_
          refine ⟨_, rfl, rfl, _, rfl, rfl, _, rfl, ifW (by rw [decide_eq_false (show ¬ V.ref pp = V.non from fun e => by cases e)]; decide +kernel) ?_⟩
          obtain ⟨a0, n0, rk0, o0, ts0, rows0, f0, js0, d0, hp0, ha0, _⟩ := (hpp.mono s15).ex
          refine ⟨_, rfl, false, rfl, ifY rfl ?_⟩
          refine ⟨_, rfl, pp, _, _, _, rfl, rfl, Rd.of hp0, at_nat (j := 0) rfl, _, rfl, .inr ⟨a0, a, cs, cs, rfl, rfl, ha0, s115 _ _ ha, _, rfl, ifW (by rw [decide_eq_true rfl]; rfl) ?_⟩⟩
          refine ⟨_, rfl, false, rfl, ifY rfl ?_⟩
          refine ⟨_, rfl, _, rfl, _, rfl, r2, b2, pp, R2, q2, cs, rfl, hR11.mono (tst s115), hq11.mono (tst s115), AS, hpp.mono s15, fun H16 s16 => ⟨_, _, rfl, rfl, _, rfl, ifW (by decide) ?_⟩⟩
          have s116 := s115.trans s16
          obtain ⟨f1, f2⟩ := (FI.mono (((s13.trans s14).trans s15).trans s16)).errs hA (s116 _ _ ha)
          rw [← eT] at f1 f2
          by_cases hf : fst = .non
          · refine ⟨_, rfl, rfl, _, rfl, ifY (decide_eq_true hf) ⟨_, rfl, false, rfl, ifY rfl ⟨_, rfl, ?_⟩⟩⟩
            exact ⟨_, _, _, .ref a, rfl, s116, f1 hf⟩
          · refine ⟨_, rfl, rfl, _, rfl, ifW (decide_eq_false hf) (iteF ⟨_, rfl, ?_⟩)⟩
            exact ⟨_, _, _, fst, rfl, s116, f2 hf⟩
      rintro σ H12 ⟨w8, w9, w10, fst, rfl, s12, FI⟩
      rw [tl, List.take_length] at FI
      refine ⟨_, rfl, _, rfl, _, rfl, r2, b2, mo, R2, q2, rfl, hR11.mono (tst s12), hq11.mono (tst s12), O2, qdp2', by rw [hst2]; exact qok2, mo4, fun hall H13 s13 => ?_, fun l1 cs l2 he hl1 hno H13 pp s13 hpp => ?_⟩
      · rw [hst2] at hall
        obtain rfl : fst = .non := by
          rcases FI with ⟨h, _⟩ | ⟨l1, c0, l2, a', h1, h2, h3, h4, h5⟩
          · exact h
          · exact absurd (hall c0 (by rw [h1]; exact List.mem_append_right _ List.mem_cons_self)) h3
        refine ⟨_, rfl, rfl, _, rfl, ifY (decide_eq_true rfl) ⟨_, rfl, .inl ⟨rfl, rfl, _, rfl, ifW rfl ?_⟩⟩⟩
        refine ⟨_, rfl, rfl, _, rfl, ifW (by rw [decide_eq_true rfl]; rfl) (iteF ?_)⟩
        exact ⟨_, _, _, _, _, _, _, _, _, _, rfl, e11.trans (ExtN.same (s12.trans s13)), T11.ext (s12.trans s13)⟩
      · rw [hst2] at he
        rcases FI with ⟨_, hall⟩ | ⟨l1', c0, l2', a', h1, h2, h3, rfl, h5⟩
        · exact absurd (hall cs (by rw [he]; exact List.mem_append_right _ List.mem_cons_self)) hno
        obtain rfl := first_same (p := Ans R2 q2) (h1.symm.trans he) h2 h3 hl1 hno
        obtain ⟨h0, hh0, hcb⟩ := mem_begAll (by rw [he]; exact List.mem_append_right _ List.mem_cons_self : c0 ∈ begAll S mo)
        have AS : Asked R2 q2 c0 := asked_beg (h := h0 + 1) O2 qdp2' (by rw [hst2]; exact qok2) (by omega) (by omega) (by rw [hst2]; exact hcb)
        obtain ⟨a0, n0, rk0, o0, ts0, rows0, f0, js0, d0, hp0, ha0, _⟩ := hpp.ex
        have s113 := s12.trans s13
        refine ⟨_, rfl, rfl, _, rfl, ifW (decide_eq_false (fun e => by cases e)) ⟨_, rfl, pp, _, _, _, rfl, rfl, Rd.of hp0, at_nat (j := 0) rfl, _, rfl, .inr ⟨a0, a', c0, c0, rfl, rfl, ha0, s13 _ _ h5, _, rfl, ifW (by rw [decide_eq_true rfl]; rfl) ?_⟩⟩⟩
        refine ⟨_, rfl, rfl, _, rfl, ifY (by rw [decide_eq_false (show ¬ V.ref a' = V.non from fun e => by cases e)]; rfl) ?_⟩
        refine ⟨_, rfl, _, rfl, _, rfl, r2, b2, pp, R2, q2, c0, rfl, hR11.mono (tst s113), hq11.mono (tst s113), AS, hpp, fun H14 s14 => ⟨_, _, rfl, rfl, _, rfl, ifW (by decide) ?_⟩⟩
        exact ⟨_, _, _, _, _, _, _, _, _, _, rfl, e11.trans (ExtN.same (s113.trans s14)), T11.ext (s113.trans s14)⟩
    · have qdp' : qn.dp < 3 := by omega
      have T8 : Tabs (lawTab Pt) H7 := T1.ext s7
      obtain ⟨mo, emo, sm⟩ : ∃ mo : Nat, (4 : Int) - (if decide (V.int (S : Int) = V.int 2) = true then 1 else 0) = (mo : Int) ∧ SM S mo := by
        have : S = 1 ∨ S = 2 := by omega
        rcases this with e | e <;> subst e
        · exact ⟨4, rfl, .inl ⟨rfl, rfl⟩⟩
        · exact ⟨3, rfl, .inr ⟨rfl, rfl⟩⟩
      have mo4 : mo ≤ 4 := by rcases sm with ⟨_, h⟩ | ⟨_, h⟩ <;> omega
      refine ⟨_, rfl, rfl, .inr ⟨_, rfl, _, _, rfl, rfl, ?_⟩⟩
      dsimp only
      rw [emo]
      clear emo
      -- for counts in sorted(..)
      refine ⟨_, rfl, _, rfl, S, mo, rfl, sm, fun H10 pl ts s10 hpl hts => ⟨pl, ts, lawB mo S, rfl, hpl, hts, ?_, T8.ext s10, fun H11 p ts' eN T11 hp hts' => ?_⟩⟩
      · rcases sm with ⟨rfl, rfl⟩ | ⟨rfl, rfl⟩ <;> decide
      rw [sort_law sm] at hts'
      have t11 : Tst H7 H11 := (tst s10).trans (ExtN.tst eN)
      have hR11 := (hR6.mono t7).mono t11
      have hq11 := (hq.mono t7).mono t11
      have e11 : ExtN H H11 := (e1.trans (ExtN.same s7)).trans ((ExtN.same s10).trans eN)
      have tl : (ts'.map V.ref).length = (begAll S mo).length := by rw [List.length_map]; exact Paired.length hts'
      refine ⟨p, rfl, ⟨_, SqL.of hp⟩, for_it walk_list (fun j σ H' => ∃ v8 v9 v10 fst, σ = [some (.ref sc), some (.int (i : Int)), some (.ref fd), some (.int (S : Int)), some (.ref r), some (.ref b), some fst, some (.int (mo : Int)), v8, v9, v10] ∧ Same H11 H' ∧ FirstIs H' R qn ((begAll S mo).take j) fst)
        ⟨_, _, _, _, rfl, Same.refl _, .inl ⟨rfl, fun cs hc => (by cases hc)⟩⟩ (fun j σ H' _ ⟨_, _, _, _, _, h, _⟩ => SqL.of (h _ _ hp)) ?_ ?_⟩
      · rintro j x σ H12 H12' hj ⟨w8, w9, w10, fst, rfl, s12, FI⟩ ⟨rfl, hx⟩
        have hj' : j < ts'.length := by rwa [List.length_map] at hj
        obtain ⟨a, hT⟩ : ∃ T, ts'[j]? = some T := ⟨ts'[j], List.getElem?_eq_getElem hj'⟩
        obtain rfl := ref_at hx hT
        obtain ⟨cs, hcs, ha⟩ := paired_getL (F := fun t (ns : List Int) => H11 t = some (.tup (ns.map V.int))) hts' hT
        obtain ⟨h0, hh0, hcb⟩ := mem_begAll (List.mem_of_getElem? hcs)
        have AS : Asked R qn cs := asked_beg (h := h0 + 1) O qdp' (by rw [hst]; exact qok) (by omega) (by omega) (by rw [hst]; exact hcb)
        refine ⟨_, rfl, _, rfl, _, rfl, r, b, a, R, qn, cs, rfl, hR11.mono (tst s12), hq11.mono (tst s12), s12 _ _ ha, AS, fun H13 z s13 hz => ?_⟩
        have s113 := s12.trans s13
        have eT : (begAll S mo).take (j + 1) = (begAll S mo).take j ++ [cs] := take_snoc hcs
        rcases Classical.em (Ans R qn cs) with hA | hA
        · obtain rfl : z = true := hz.mpr hA
          refine ⟨_, rfl, _, rfl, _, rfl, r, b, a, R, qn, cs, rfl, hR11.mono (tst s113), hq11.mono (tst s113), s113 _ _ ha, AS, fun _ H14 s14 => ?_, fun hno => absurd hA hno⟩
          have s114 := s113.trans s14
          refine ⟨_, rfl, _, rfl, _, rfl, r, b, a, R, qn, cs, rfl, hR11.mono (tst s114), hq11.mono (tst s114), s114 _ _ ha, AS, fun H15 ks ws ss rkw rks s15 GO => ⟨_, rfl, _, rfl, _, rfl, rfl, _, rfl, ?_⟩⟩
          have s115 := s114.trans s15
          rw [decide_eq_true (GO.ans.mpr hA)]
          refine ifW (by rw [decide_eq_true rfl]; rfl) ?_
          refine ⟨_, rfl, rfl, _, rfl, rfl, _, rfl, ifW (by decide +kernel) ?_⟩
          refine ⟨_, rfl, true, rfl, ifW rfl (iteF ?_)⟩
          refine ⟨_, rfl, true, rfl, ifW rfl (iteF ?_)⟩
          have FI5 : FirstIs H15 R qn ((begAll S mo).take (j + 1)) fst := by
            rw [eT]
            exact (FI.mono ((s13.trans s14).trans s15)).ans hA
          by_cases hf : fst = .non
          · refine ⟨_, rfl, rfl, _, rfl, ifY (decide_eq_true hf) ⟨_, rfl, true, rfl, ifW rfl ⟨_, rfl, ?_⟩⟩⟩
            exact ⟨_, _, _, fst, rfl, s115, FI5⟩
          · refine ⟨_, rfl, rfl, _, rfl, ifW (decide_eq_false hf) (iteF ⟨_, rfl, ?_⟩)⟩
            exact ⟨_, _, _, fst, rfl, s115, FI5⟩
        · obtain rfl : z = false := by
            cases z with
            | false => rfl
            | true => exact absurd (hz.mp rfl) hA
          refine ⟨_, rfl, _, rfl, _, rfl, r, b, a, R, qn, cs, rfl, hR11.mono (tst s113), hq11.mono (tst s113), s113 _ _ ha, AS, fun h => absurd h hA, fun _ H14 pp s14 hpp => ?_⟩
          have s114 := s113.trans s14
          refine ⟨_, rfl, _, rfl, _, rfl, r, b, a, R, qn, cs, rfl, hR11.mono (tst s114), hq11.mono (tst s114), s114 _ _ ha, AS, fun H15 ks ws ss rkw rks s15 GO => ⟨_, rfl, _, rfl, _, rfl, rfl, _, rfl, ?_⟩⟩
          have s115 := s114.trans s15
          rw [decide_eq_false (fun e => hA (GO.ans.mp e))]
          refine ifW (by rw [decide_eq_true rfl]; rfl) ?_
          refine ⟨_, rfl, rfl, _, rfl, rfl, _, rfl, ifW (by rw [decide_eq_false (show ¬ V.ref pp = V.non from fun e => by cases e)]; decide +kernel) ?_⟩
          obtain ⟨a0, n0, rk0, o0, ts0, rows0, f0, js0, d0, hp0, ha0, _⟩ := (hpp.mono s15).ex
          refine ⟨_, rfl, false, rfl, ifY rfl ?_⟩
          refine ⟨_, rfl, pp, _, _, _, rfl, rfl, Rd.of hp0, at_nat (j := 0) rfl, _, rfl, .inr ⟨a0, a, cs, cs, rfl, rfl, ha0, s115 _ _ ha, _, rfl, ifW (by rw [decide_eq_true rfl]; rfl) ?_⟩⟩
          refine ⟨_, rfl, false, rfl, ifY rfl ?_⟩
          refine ⟨_, rfl, _, rfl, _, rfl, r, b, pp, R, qn, cs, rfl, hR11.mono (tst s115), hq11.mono (tst s115), AS, hpp.mono s15, fun H16 s16 => ⟨_, _, rfl, rfl, _, rfl, ifW (by decide) ?_⟩⟩
          have s116 := s115.trans s16
          obtain ⟨f1, f2⟩ := (FI.mono (((s13.trans s14).trans s15).trans s16)).errs hA (s116 _ _ ha)
          rw [← eT] at f1 f2
          by_cases hf : fst = .non
          · refine ⟨_, rfl, rfl, _, rfl, ifY (decide_eq_true hf) ⟨_, rfl, false, rfl, ifY rfl ⟨_, rfl, ?_⟩⟩⟩
            exact ⟨_, _, _, .ref a, rfl, s116, f1 hf⟩
          · refine ⟨_, rfl, rfl, _, rfl, ifW (decide_eq_false hf) (iteF ⟨_, rfl, ?_⟩)⟩
            exact ⟨_, _, _, fst, rfl, s116, f2 hf⟩
      rintro σ H12 ⟨w8, w9, w10, fst, rfl, s12, FI⟩
      rw [tl, List.take_length] at FI
      refine ⟨_, rfl, _, rfl, _, rfl, r, b, mo, R, qn, rfl, hR11.mono (tst s12), hq11.mono (tst s12), O, qdp', by rw [hst]; exact qok, mo4, fun hall H13 s13 => ?_, fun l1 cs l2 he hl1 hno H13 pp s13 hpp => ?_⟩
      · rw [hst] at hall
        obtain rfl : fst = .non := by
          rcases FI with ⟨h, _⟩ | ⟨l1, c0, l2, a', h1, h2, h3, h4, h5⟩
          · exact h
          · exact absurd (hall c0 (by rw [h1]; exact List.mem_append_right _ List.mem_cons_self)) h3
        refine ⟨_, rfl, rfl, _, rfl, ifY (decide_eq_true rfl) ⟨_, rfl, .inl ⟨rfl, rfl, _, rfl, ifW rfl ?_⟩⟩⟩
        refine ⟨_, rfl, rfl, _, rfl, ifW (by rw [decide_eq_true rfl]; rfl) (iteF ?_)⟩
        exact ⟨_, _, _, _, _, _, _, _, _, _, rfl, e11.trans (ExtN.same (s12.trans s13)), T11.ext (s12.trans s13)⟩
      · rw [hst] at he
        rcases FI with ⟨_, hall⟩ | ⟨l1', c0, l2', a', h1, h2, h3, rfl, h5⟩
        · exact absurd (hall cs (by rw [he]; exact List.mem_append_right _ List.mem_cons_self)) hno
        obtain rfl := first_same (p := Ans R qn) (h1.symm.trans he) h2 h3 hl1 hno
        obtain ⟨h0, hh0, hcb⟩ := mem_begAll (by rw [he]; exact List.mem_append_right _ List.mem_cons_self : c0 ∈ begAll S mo)
        have AS : Asked R qn c0 := asked_beg (h := h0 + 1) O qdp' (by rw [hst]; exact qok) (by omega) (by omega) (by rw [hst]; exact hcb)
        obtain ⟨a0, n0, rk0, o0, ts0, rows0, f0, js0, d0, hp0, ha0, _⟩ := hpp.ex
        have s113 := s12.trans s13
        refine ⟨_, rfl, rfl, _, rfl, ifW (decide_eq_false (fun e => by cases e)) ⟨_, rfl, pp, _, _, _, rfl, rfl, Rd.of hp0, at_nat (j := 0) rfl, _, rfl, .inr ⟨a0, a', c0, c0, rfl, rfl, ha0, s13 _ _ h5, _, rfl, ifW (by rw [decide_eq_true rfl]; rfl) ?_⟩⟩⟩
        refine ⟨_, rfl, rfl, _, rfl, ifY (by rw [decide_eq_false (show ¬ V.ref a' = V.non from fun e => by cases e)]; rfl) ?_⟩
        refine ⟨_, rfl, _, rfl, _, rfl, r, b, pp, R, qn, c0, rfl, hR11.mono (tst s113), hq11.mono (tst s113), AS, hpp, fun H14 s14 => ⟨_, _, rfl, rfl, _, rfl, ifW (by decide) ?_⟩⟩
        exact ⟨_, _, _, _, _, _, _, _, _, _, rfl, e11.trans (ExtN.same (s113.trans s14)), T11.ext (s113.trans s14)⟩
  · rintro σ H1 ⟨v1, v2, v3, v4, v5, v6, v7, v8, v9, v10, rfl, e1, T1⟩
    exact q H1
end
end PB
namespace PB
open PySem PySem.Spec PyProof.Rows L2 LamX
theorem at_mk {K : PySem.W.Frag} {mg : Str → Option Value} {h : Heap} {f : Addr} {x : Str} {st : Stmt} {ps : List Str} {oc kV doc pm cdv ct : Value} {od an : Option Addr} {osl : Array (Option Value)} (X : K.In h) (G : h.Ns mainGlobals mg)
    (hb : ∀ (kV doc pm : Value) (an : Option Addr) (cdv ct : Value) (us : List Value), us.length = ps.length → bindArgs (PySem.W.fnOf x x (defArgs st) (defBody st) (defScope st) .none kV doc pm an cdv ct) ⟨us, []⟩ = pure (ps.zip us))
    (a : PySem.W.nsIn K mainGlobals x = some (some (.ref f))) (l : K.lookup f = some ⟨oc, od, .func (PySem.W.fnOf x x (defArgs st) (defBody st) (defScope st) .none kV doc pm an cdv ct), osl⟩) (c : PySem.W.codeIn K cdv x = true) (k : PySem.W.keepIn K (.ref f) = true) : At K mg x st ps :=
  ⟨f, _, fun_mk l c k, PySem.W.mg_of X G a, (fun_mk l c k).binds hb⟩
theorem atD_mk {K : PySem.W.Frag} {mg : Str → Option Value} {h : Heap} {f T : Addr} {x : Str} {st : Stmt} {ps : List Str} {oc kV doc pm cdv ct ocd : Value} {od an odd : Option Addr} {osl sld : Array (Option Value)} {nd : Nat} {tk : Tok} (X : K.In h) (G : h.Ns mainGlobals mg) (n j : Nat) (hn : n + (1 - j) = ps.length)
    (hb : ∀ (T : Addr) (kV doc pm : Value) (an : Option Addr) (cdv ct : Value) (us its : List Value), us.length = n → its.length = 1 →
      ∃ k, bindArgs (PySem.W.fnOf x x (defArgs st) (defBody st) (defScope st) (.ref T) kV doc pm an cdv ct) ⟨us, []⟩ = seqItems? (.ref T) >>= k ∧ k (some its.toArray) = pure (ps.zip (us ++ its.drop j)))
    (a : PySem.W.nsIn K mainGlobals x = some (some (.ref f))) (l : K.lookup f = some ⟨oc, od, .func (PySem.W.fnOf x x (defArgs st) (defBody st) (defScope st) (.ref T) kV doc pm an cdv ct), osl⟩) (c : PySem.W.codeIn K cdv x = true) (k : PySem.W.keepIn K (.ref f) = true)
    (t : K.lookup T = some ⟨ocd, odd, .seq #[.int 1000 tk] nd, sld⟩) : AtD K mg x st ps (([.int 1000] : List V).drop j) := by
  have F : FunD K x x (defArgs st) (defBody st) (defScope st) [.int 1000] [] f _ := ⟨⟨oc, od, .ref T, kV, doc, pm, an, cdv, ct, osl, rfl, l, c, .inr ⟨by simp, T, _, [.int 1000 tk], nd, rfl, t, rfl, .cons ⟨_, rfl⟩ .nil⟩, .inl rfl⟩, k⟩
  obtain ⟨ds, r, b⟩ := F.binds1 (ps := ps) n j (by simp) hn hb
  exact ⟨f, _, ds, _, F, PySem.W.mg_of X G a, b, r⟩
structure LF (K : PySem.W.Frag) (mg : Str → Option Value) : Prop where
  Z : BN mg
  T : GN mg
  a_is_whole : At K mg "is_whole" s_is_whole ["thing"]
  a_is_from : At K mg "is_from" s_is_from ["thing", "low", "high"]
  a_may_be : At K mg "may_be" s_may_be ["crowd", "meeting"]
  a_can : At K mg "can" s_can ["rule", "crowd"]
  a_is_next : At K mg "is_next" s_is_next ["rule", "crowd", "number"]
  a_crowd_behind : At K mg "crowd_behind" s_crowd_behind ["crowd", "meeting"]
  a_met : At K mg "met" s_met ["rule", "crowd", "number"]
  a_graph_of : At K mg "graph_of" s_graph_of ["rule", "crowd", "limit"]
  a_begun : At K mg "begun" s_begun ["rule", "counts"]
  a_hands_of : At K mg "hands_of" s_hands_of ["some", "counts"]
  a_holds : At K mg "holds" s_holds ["question", "counts"]
  a_truth_word : At K mg "truth_word" s_truth_word ["question", "counts"]
  a_ranks_to : At K mg "ranks_to" s_ranks_to ["graph", "goals"]
  a_said : At K mg "said" s_said ["rule", "crowd"]
  a_gone_through : At K mg "gone_through" s_gone_through ["rule", "question", "counts", "limit"]
  a_row_to : At K mg "row_to" s_row_to ["graph", "crowd", "goals"]
  a_beginnings : At K mg "beginnings" s_beginnings ["sorts", "hands"]
  a_is_number : At K mg "is_number" s_is_number ["thing"]
  a_passed_along : At K mg "passed_along" s_passed_along ["rule", "crowd", "numbers", "word"]
  a_is_counts : At K mg "is_counts" s_is_counts ["sorts", "thing"]
  a_ask_shape : At K mg "ask_shape" s_ask_shape ["rule", "thing"]
  a_is_crowd : At K mg "is_crowd" s_is_crowd ["rule", "thing"]
  a_is_ranked : At K mg "is_ranked" s_is_ranked ["rule", "thing", "hands"]
  a_ask_ranks : At K mg "ask_ranks" s_ask_ranks ["rule", "ranks", "hands"]
  a_ask_ways : At K mg "ask_ways" s_ask_ways ["rule", "ranks", "word"]
  a_lets_err : At K mg "lets_err" s_lets_err ["rule", "question", "thing"]
  a_started : At K mg "started" s_started ["sorts", "some", "one", "other"]
  a_made_least : At K mg "made_least" s_made_least ["some", "most", "sorts"]
  a_made_more : At K mg "made_more" s_made_more ["these", "those", "sorts"]
  a_made_rest : At K mg "made_rest" s_made_rest ["some", "by", "left", "sorts"]
  a_rooms_for : At K mg "rooms_for" s_rooms_for ["question"]
  a_made_small : At K mg "made_small" s_made_small ["question", "sorts"]
  a_made : At K mg "made" s_made ["question", "sorts"]
  a_l_feed : At K mg "_law_feed" s_l_feed ["_law_script", "_law_k"]
  a_l_next : At K mg "_law_next" s_l_next ["_law_feed_here", "_law_many_here"]
  a_l_one : At K mg "_law_one" s_l_one ["_law_feed_here", "_law_some_here"]
  a_l_some : At K mg "_law_some" s_l_some ["_law_feed_here", "_law_sorts", "_law_least"]
  a_l_plain : At K mg "_law_plain" s_l_plain ["_law_feed_here", "_law_sorts"]
  a_l_question : At K mg "_law_question" s_l_question ["_law_feed_here", "_law_sorts", "_law_size", "_law_deep"]
  a_l_behind : At K mg "_law_behind" s_l_behind ["_law_crowd_here", "_law_meeting"]
  a_l_can : At K mg "_law_can" s_l_can ["_law_rule_here", "_law_crowd_here"]
  a_l_crowd : At K mg "_law_crowd" s_l_crowd ["_law_rule_here", "_law_counts"]
  a_l_rule : At K mg "_law_rule" s_l_rule ["_law_feed_here", "_law_most", "_law_sorts"]
  a_l_truth : At K mg "_law_truth" s_l_truth ["_law_question_here", "_law_counts"]
  a_l_after : At K mg "_law_after" s_l_after ["_law_rule_here", "_law_crowd_here"]
  a_l_leading : At K mg "_law_leading" s_l_leading ["_law_after_here", "_law_some_here"]
  a_l_many : At K mg "_law_many" s_l_many ["_law_crowd_here", "_law_rooms"]
  a_l_answers : At K mg "_law_answers" s_l_answers ["_law_rule_here", "_law_question_here", "_law_counts"]
  a_l_near : At K mg "_law_near" s_l_near ["_law_feed_here", "_law_sorts"]
  a_l_begins : At K mg "_law_begins" s_l_begins ["_law_sorts", "_law_few", "_law_most"]
  a_answers : AtD K mg "answers" s_answers ["rule", "question", "counts", "limit"] [.int 1000]
  a_err_at : AtD K mg "err_at" s_err_at ["rule", "question", "counts", "limit"] []
  a_err_at3 : AtD K mg "err_at" s_err_at ["rule", "question", "counts", "limit"] [.int 1000]
  a_err_of : AtD K mg "err_of" s_err_of ["rule", "question", "most", "limit"] [.int 1000]
theorem law_end {l : PySem.W.OpenLaw} {w : World} {K : PySem.W.Frag} {h : Heap} {mg : Str → Option Value} {fa f c Pt : Addr} {oc : Value} {od an : Option Addr} {osl : Array (Option Value)} {kV doc pm ct : Value} (F : LF K mg) (X : K.In h) (G : h.Ns mainGlobals mg) (hfa : mg "law" = some (.ref fa)) (hPt : h.get? Pt = some { cls := .none, data := .fields #[] })
    (a : PySem.W.nsIn K mainGlobals "law" = some (some (.ref f))) (lk : K.lookup f = some ⟨oc, od, .func (PySem.W.fnOf "law" "law" (defArgs s_law) (defBody s_law) (defScope s_law) .none kV doc pm an (.ref c) ct), osl⟩) (hcd : PySem.W.codeIn K (.ref c) "law" = true) (hh : PySem.W.codeHdIn K c Pt = true) (nT : K.lookup Pt = none) :
    LawAtS l w K CX0 9 63 "_law_script" mg fa h := by
  have e := hfa.symm.trans (PySem.W.mg_of X G a)
  cases e
  refine ⟨PySem.W.fnOf "law" "law" (defArgs s_law) (defBody s_law) (defScope s_law) .none kV doc pm an (.ref c) ct, [(c, Pt)], spLaw K Pt, fun p hp => by rw [List.mem_singleton.mp hp]; exact hPt, fun p hp => by rw [List.mem_singleton.mp hp]; exact nT, fun p hp => by rw [List.mem_singleton.mp hp]; exact PySem.W.codeHd_of_K X hh, fun s u => .of_eq rfl, fun H a ns hl _ hH hS => ⟨a, ns, rfl, hS, by omega, hH (c, Pt) List.mem_cons_self, fun _ => rfl⟩, fun base XB GB hTB => ?_⟩
  have TB := hTB (c, Pt) List.mem_cons_self
  have Z := F.Z
  have T := F.T
  have D_is_whole := d_is_whole (P := l.prog) (w := w) (base := base) Z F.a_is_whole
  have D_is_from := d_is_from (P := l.prog) (w := w) (base := base) Z F.a_is_from D_is_whole
  have D_may_be := d_may_be (P := l.prog) (w := w) (base := base) Z F.a_may_be
  have D_can := d_can (P := l.prog) (w := w) (base := base) Z F.a_can D_may_be
  have D_is_next := d_is_next (P := l.prog) (w := w) (base := base) Z F.a_is_next D_is_whole D_may_be
  have D_crowd_behind := d_crowd_behind (P := l.prog) (w := w) (base := base) Z F.a_crowd_behind
  have D_met := d_met (P := l.prog) (w := w) (base := base) Z F.a_met D_is_next D_crowd_behind
  have D_graph_of := d_graph_of (P := l.prog) (w := w) (base := base) Z F.a_graph_of D_can D_met
  have D_begun := d_begun (P := l.prog) (w := w) (base := base) Z F.a_begun
  have D_hands_of := d_hands_of (P := l.prog) (w := w) (base := base) Z F.a_hands_of
  have D_holds := d_holds (P := l.prog) (w := w) (base := base) Z F.a_holds D_hands_of 3
  have D_truth_word := d_truth_word (P := l.prog) (w := w) (base := base) Z F.a_truth_word D_holds
  have D_ranks_to := d_ranks_to (P := l.prog) (w := w) (base := base) Z F.a_ranks_to
  have D_said := d_said (P := l.prog) (w := w) (base := base) Z F.a_said
  have D_gone_through := d_gone_through (P := l.prog) (w := w) (base := base) Z F.a_gone_through D_graph_of D_begun D_truth_word D_ranks_to D_said
  have D_answers := d_answers (P := l.prog) (w := w) (base := base) Z F.a_answers D_gone_through
  have D_row_to := d_row_to (P := l.prog) (w := w) (base := base) Z F.a_row_to
  have D_err_at := d_err_at (P := l.prog) (w := w) (base := base) Z F.a_err_at D_gone_through D_row_to D_graph_of
  have D_err_at3 := d_err_at (P := l.prog) (w := w) (base := base) Z F.a_err_at3 D_gone_through D_row_to D_graph_of
  have D_beginnings := d_beginnings (P := l.prog) (w := w) (base := base) Z F.a_beginnings
  have D_err_of := d_err_of (P := l.prog) (w := w) (base := base) Z F.a_err_of D_beginnings D_err_at
  have D_is_number := d_is_number (P := l.prog) (w := w) (base := base) Z F.a_is_number
  have D_passed_along := d_passed_along (P := l.prog) (w := w) (base := base) Z F.a_passed_along D_is_number D_can D_met
  have D_is_counts := d_is_counts (P := l.prog) (w := w) (base := base) Z T F.a_is_counts D_is_from
  have D_ask_shape := d_ask_shape (P := l.prog) (w := w) (base := base) Z T F.a_ask_shape D_is_counts
  have D_is_crowd := d_is_crowd (P := l.prog) (w := w) (base := base) Z F.a_is_crowd D_is_whole
  have D_is_ranked := d_is_ranked (P := l.prog) (w := w) (base := base) Z F.a_is_ranked D_is_number D_is_crowd
  have D_ask_ranks := d_ask_ranks (P := l.prog) (w := w) (base := base) Z F.a_ask_ranks D_is_ranked
  have D_ask_ways := d_ask_ways (P := l.prog) (w := w) (base := base) Z F.a_ask_ways D_can D_met D_said
  have D_lets_err := d_lets_err (P := l.prog) (w := w) (base := base) Z F.a_lets_err D_ask_shape D_passed_along D_begun D_ask_ranks D_ask_ways D_truth_word
  have D_started := d_started (P := l.prog) (w := w) (base := base) Z F.a_started
  have D_made_least := d_made_least (P := l.prog) (w := w) (base := base) Z F.a_made_least D_started
  have D_made_more := d_made_more (P := l.prog) (w := w) (base := base) Z F.a_made_more
  have D_made_rest := d_made_rest (P := l.prog) (w := w) (base := base) Z F.a_made_rest D_started
  have D_rooms_for := d_rooms_for (P := l.prog) (w := w) (base := base) Z F.a_rooms_for
  have D_made_small := d_made_small (P := l.prog) (w := w) (base := base) Z F.a_made_small D_made_least D_made_more D_made_rest
  have D_made := d_made (P := l.prog) (w := w) (base := base) Z T F.a_made D_rooms_for D_made_small
  have D_l_feed := d_l_feed (P := l.prog) (w := w) (base := base) Z F.a_l_feed
  have D_l_next := d_l_next (P := l.prog) (w := w) (base := base) Z F.a_l_next
  have D_l_one := d_l_one (P := l.prog) (w := w) (base := base) Z F.a_l_one D_l_next
  have D_l_some := d_l_some (P := l.prog) (w := w) (base := base) Z F.a_l_some D_l_next
  have D_l_plain := d_l_plain (P := l.prog) (w := w) (base := base) Z F.a_l_plain D_l_next D_l_one D_l_some
  have D_l_question := d_l_question (P := l.prog) (w := w) (base := base) Z F.a_l_question D_l_next D_l_plain 4
  have D_l_behind := d_l_behind (P := l.prog) (w := w) (base := base) Z F.a_l_behind
  have D_l_can := d_l_can (P := l.prog) (w := w) (base := base) Z F.a_l_can D_l_behind
  have D_l_crowd := d_l_crowd (P := l.prog) (w := w) (base := base) Z F.a_l_crowd
  have D_l_rule := d_l_rule (P := l.prog) (w := w) (base := base) Z F.a_l_rule D_l_next D_l_one
  have D_l_truth := d_l_truth (P := l.prog) (w := w) (base := base) Z F.a_l_truth 3
  have D_l_after := d_l_after (P := l.prog) (w := w) (base := base) Z F.a_l_after D_l_can D_l_behind
  have D_l_leading := d_l_leading (P := l.prog) (w := w) (base := base) Z F.a_l_leading
  have D_l_many := d_l_many (P := l.prog) (w := w) (base := base) Z F.a_l_many
  have D_l_answers := d_l_answers (P := l.prog) (w := w) (base := base) Z F.a_l_answers D_l_truth D_l_after D_l_crowd D_l_leading D_l_many
  have D_l_near := d_l_near (P := l.prog) (w := w) (base := base) Z F.a_l_near D_l_next D_l_one D_l_some D_made
  have D_l_begins := d_l_begins (P := l.prog) (w := w) (base := base) Z F.a_l_begins
  exact law_fn Z lk hcd TB D_l_feed D_l_next D_l_rule D_l_question D_l_near D_l_begins D_l_answers D_err_at3 D_answers D_lets_err D_err_of
end PB
open PySem PySem.W PyProof.Rows in
set_option maxHeartbeats 0 in
open_top headA for PySem.Challenge.rw_passersby_k92_whole_errs_just_where_a_pa
open PySem PySem.W PyProof.Rows
set_option maxHeartbeats 0 in
theorem PySem.Challenge.cw_passersby_k92_whole_errs_just_where_a_pa_holds : PySem.Challenge.rw_passersby_k92_whole_errs_just_where_a_pa.Holds := by
  refine headA ?_
  k_fill
  refine LamX.walk_ofTs (n := 63) (k := 9) (x := "_law_script") (CX := fun _ => L2.CX0) rfl (by decide) rfl ⟨rfl, by decide, by decide⟩ (fun w h Y => km_in_of Y) ?F (fun _ _ _ _ _ z => z)
  case F =>
    intro w mg fa h Y KX G hmg
    have hT8 := km_tabs_of Y
    have a_is_whole : PB.At (headA.heap_39 w.params) mg "is_whole" PB.s_is_whole ["thing"] := by
      refine' PB.at_mk KX G (fun _ _ _ _ _ _ us hl => match us, hl with | [_], _ => rfl) ?a ?l ?c ?k
      (case a => k_is); (case l => k_is); (case c => k_is); (case k => k_is)
    have a_is_from : PB.At (headA.heap_39 w.params) mg "is_from" PB.s_is_from ["thing", "low", "high"] := by
      refine' PB.at_mk KX G (fun _ _ _ _ _ _ us hl => match us, hl with | [_, _, _], _ => rfl) ?a ?l ?c ?k
      (case a => k_is); (case l => k_is); (case c => k_is); (case k => k_is)
    have a_may_be : PB.At (headA.heap_39 w.params) mg "may_be" PB.s_may_be ["crowd", "meeting"] := by
      refine' PB.at_mk KX G (fun _ _ _ _ _ _ us hl => match us, hl with | [_, _], _ => rfl) ?a ?l ?c ?k
      (case a => k_is); (case l => k_is); (case c => k_is); (case k => k_is)
    have a_can : PB.At (headA.heap_39 w.params) mg "can" PB.s_can ["rule", "crowd"] := by
      refine' PB.at_mk KX G (fun _ _ _ _ _ _ us hl => match us, hl with | [_, _], _ => rfl) ?a ?l ?c ?k
      (case a => k_is); (case l => k_is); (case c => k_is); (case k => k_is)
    have a_is_next : PB.At (headA.heap_39 w.params) mg "is_next" PB.s_is_next ["rule", "crowd", "number"] := by
      refine' PB.at_mk KX G (fun _ _ _ _ _ _ us hl => match us, hl with | [_, _, _], _ => rfl) ?a ?l ?c ?k
      (case a => k_is); (case l => k_is); (case c => k_is); (case k => k_is)
    have a_crowd_behind : PB.At (headA.heap_39 w.params) mg "crowd_behind" PB.s_crowd_behind ["crowd", "meeting"] := by
      refine' PB.at_mk KX G (fun _ _ _ _ _ _ us hl => match us, hl with | [_, _], _ => rfl) ?a ?l ?c ?k
      (case a => k_is); (case l => k_is); (case c => k_is); (case k => k_is)
    have a_met : PB.At (headA.heap_39 w.params) mg "met" PB.s_met ["rule", "crowd", "number"] := by
      refine' PB.at_mk KX G (fun _ _ _ _ _ _ us hl => match us, hl with | [_, _, _], _ => rfl) ?a ?l ?c ?k
      (case a => k_is); (case l => k_is); (case c => k_is); (case k => k_is)
    have a_graph_of : PB.At (headA.heap_39 w.params) mg "graph_of" PB.s_graph_of ["rule", "crowd", "limit"] := by
      refine' PB.at_mk KX G (fun _ _ _ _ _ _ us hl => match us, hl with | [_, _, _], _ => rfl) ?a ?l ?c ?k
      (case a => k_is); (case l => k_is); (case c => k_is); (case k => k_is)
    have a_begun : PB.At (headA.heap_39 w.params) mg "begun" PB.s_begun ["rule", "counts"] := by
      refine' PB.at_mk KX G (fun _ _ _ _ _ _ us hl => match us, hl with | [_, _], _ => rfl) ?a ?l ?c ?k
      (case a => k_is); (case l => k_is); (case c => k_is); (case k => k_is)
    have a_hands_of : PB.At (headA.heap_39 w.params) mg "hands_of" PB.s_hands_of ["some", "counts"] := by
      refine' PB.at_mk KX G (fun _ _ _ _ _ _ us hl => match us, hl with | [_, _], _ => rfl) ?a ?l ?c ?k
      (case a => k_is); (case l => k_is); (case c => k_is); (case k => k_is)
    have a_holds : PB.At (headA.heap_39 w.params) mg "holds" PB.s_holds ["question", "counts"] := by
      refine' PB.at_mk KX G (fun _ _ _ _ _ _ us hl => match us, hl with | [_, _], _ => rfl) ?a ?l ?c ?k
      (case a => k_is); (case l => k_is); (case c => k_is); (case k => k_is)
    have a_truth_word : PB.At (headA.heap_39 w.params) mg "truth_word" PB.s_truth_word ["question", "counts"] := by
      refine' PB.at_mk KX G (fun _ _ _ _ _ _ us hl => match us, hl with | [_, _], _ => rfl) ?a ?l ?c ?k
      (case a => k_is); (case l => k_is); (case c => k_is); (case k => k_is)
    have a_ranks_to : PB.At (headA.heap_39 w.params) mg "ranks_to" PB.s_ranks_to ["graph", "goals"] := by
      refine' PB.at_mk KX G (fun _ _ _ _ _ _ us hl => match us, hl with | [_, _], _ => rfl) ?a ?l ?c ?k
      (case a => k_is); (case l => k_is); (case c => k_is); (case k => k_is)
    have a_said : PB.At (headA.heap_39 w.params) mg "said" PB.s_said ["rule", "crowd"] := by
      refine' PB.at_mk KX G (fun _ _ _ _ _ _ us hl => match us, hl with | [_, _], _ => rfl) ?a ?l ?c ?k
      (case a => k_is); (case l => k_is); (case c => k_is); (case k => k_is)
    have a_gone_through : PB.At (headA.heap_39 w.params) mg "gone_through" PB.s_gone_through ["rule", "question", "counts", "limit"] := by
      refine' PB.at_mk KX G (fun _ _ _ _ _ _ us hl => match us, hl with | [_, _, _, _], _ => rfl) ?a ?l ?c ?k
      (case a => k_is); (case l => k_is); (case c => k_is); (case k => k_is)
    have a_row_to : PB.At (headA.heap_39 w.params) mg "row_to" PB.s_row_to ["graph", "crowd", "goals"] := by
      refine' PB.at_mk KX G (fun _ _ _ _ _ _ us hl => match us, hl with | [_, _, _], _ => rfl) ?a ?l ?c ?k
      (case a => k_is); (case l => k_is); (case c => k_is); (case k => k_is)
    have a_beginnings : PB.At (headA.heap_39 w.params) mg "beginnings" PB.s_beginnings ["sorts", "hands"] := by
      refine' PB.at_mk KX G (fun _ _ _ _ _ _ us hl => match us, hl with | [_, _], _ => rfl) ?a ?l ?c ?k
      (case a => k_is); (case l => k_is); (case c => k_is); (case k => k_is)
    have a_is_number : PB.At (headA.heap_39 w.params) mg "is_number" PB.s_is_number ["thing"] := by
      refine' PB.at_mk KX G (fun _ _ _ _ _ _ us hl => match us, hl with | [_], _ => rfl) ?a ?l ?c ?k
      (case a => k_is); (case l => k_is); (case c => k_is); (case k => k_is)
    have a_passed_along : PB.At (headA.heap_39 w.params) mg "passed_along" PB.s_passed_along ["rule", "crowd", "numbers", "word"] := by
      refine' PB.at_mk KX G (fun _ _ _ _ _ _ us hl => match us, hl with | [_, _, _, _], _ => rfl) ?a ?l ?c ?k
      (case a => k_is); (case l => k_is); (case c => k_is); (case k => k_is)
    have a_is_counts : PB.At (headA.heap_39 w.params) mg "is_counts" PB.s_is_counts ["sorts", "thing"] := by
      refine' PB.at_mk KX G (fun _ _ _ _ _ _ us hl => match us, hl with | [_, _], _ => rfl) ?a ?l ?c ?k
      (case a => k_is); (case l => k_is); (case c => k_is); (case k => k_is)
    have a_ask_shape : PB.At (headA.heap_39 w.params) mg "ask_shape" PB.s_ask_shape ["rule", "thing"] := by
      refine' PB.at_mk KX G (fun _ _ _ _ _ _ us hl => match us, hl with | [_, _], _ => rfl) ?a ?l ?c ?k
      (case a => k_is); (case l => k_is); (case c => k_is); (case k => k_is)
    have a_is_crowd : PB.At (headA.heap_39 w.params) mg "is_crowd" PB.s_is_crowd ["rule", "thing"] := by
      refine' PB.at_mk KX G (fun _ _ _ _ _ _ us hl => match us, hl with | [_, _], _ => rfl) ?a ?l ?c ?k
      (case a => k_is); (case l => k_is); (case c => k_is); (case k => k_is)
    have a_is_ranked : PB.At (headA.heap_39 w.params) mg "is_ranked" PB.s_is_ranked ["rule", "thing", "hands"] := by
      refine' PB.at_mk KX G (fun _ _ _ _ _ _ us hl => match us, hl with | [_, _, _], _ => rfl) ?a ?l ?c ?k
      (case a => k_is); (case l => k_is); (case c => k_is); (case k => k_is)
    have a_ask_ranks : PB.At (headA.heap_39 w.params) mg "ask_ranks" PB.s_ask_ranks ["rule", "ranks", "hands"] := by
      refine' PB.at_mk KX G (fun _ _ _ _ _ _ us hl => match us, hl with | [_, _, _], _ => rfl) ?a ?l ?c ?k
      (case a => k_is); (case l => k_is); (case c => k_is); (case k => k_is)
    have a_ask_ways : PB.At (headA.heap_39 w.params) mg "ask_ways" PB.s_ask_ways ["rule", "ranks", "word"] := by
      refine' PB.at_mk KX G (fun _ _ _ _ _ _ us hl => match us, hl with | [_, _, _], _ => rfl) ?a ?l ?c ?k
      (case a => k_is); (case l => k_is); (case c => k_is); (case k => k_is)
    have a_lets_err : PB.At (headA.heap_39 w.params) mg "lets_err" PB.s_lets_err ["rule", "question", "thing"] := by
      refine' PB.at_mk KX G (fun _ _ _ _ _ _ us hl => match us, hl with | [_, _, _], _ => rfl) ?a ?l ?c ?k
      (case a => k_is); (case l => k_is); (case c => k_is); (case k => k_is)
    have a_started : PB.At (headA.heap_39 w.params) mg "started" PB.s_started ["sorts", "some", "one", "other"] := by
      refine' PB.at_mk KX G (fun _ _ _ _ _ _ us hl => match us, hl with | [_, _, _, _], _ => rfl) ?a ?l ?c ?k
      (case a => k_is); (case l => k_is); (case c => k_is); (case k => k_is)
    have a_made_least : PB.At (headA.heap_39 w.params) mg "made_least" PB.s_made_least ["some", "most", "sorts"] := by
      refine' PB.at_mk KX G (fun _ _ _ _ _ _ us hl => match us, hl with | [_, _, _], _ => rfl) ?a ?l ?c ?k
      (case a => k_is); (case l => k_is); (case c => k_is); (case k => k_is)
    have a_made_more : PB.At (headA.heap_39 w.params) mg "made_more" PB.s_made_more ["these", "those", "sorts"] := by
      refine' PB.at_mk KX G (fun _ _ _ _ _ _ us hl => match us, hl with | [_, _, _], _ => rfl) ?a ?l ?c ?k
      (case a => k_is); (case l => k_is); (case c => k_is); (case k => k_is)
    have a_made_rest : PB.At (headA.heap_39 w.params) mg "made_rest" PB.s_made_rest ["some", "by", "left", "sorts"] := by
      refine' PB.at_mk KX G (fun _ _ _ _ _ _ us hl => match us, hl with | [_, _, _, _], _ => rfl) ?a ?l ?c ?k
      (case a => k_is); (case l => k_is); (case c => k_is); (case k => k_is)
    have a_rooms_for : PB.At (headA.heap_39 w.params) mg "rooms_for" PB.s_rooms_for ["question"] := by
      refine' PB.at_mk KX G (fun _ _ _ _ _ _ us hl => match us, hl with | [_], _ => rfl) ?a ?l ?c ?k
      (case a => k_is); (case l => k_is); (case c => k_is); (case k => k_is)
    have a_made_small : PB.At (headA.heap_39 w.params) mg "made_small" PB.s_made_small ["question", "sorts"] := by
      refine' PB.at_mk KX G (fun _ _ _ _ _ _ us hl => match us, hl with | [_, _], _ => rfl) ?a ?l ?c ?k
      (case a => k_is); (case l => k_is); (case c => k_is); (case k => k_is)
    have a_made : PB.At (headA.heap_39 w.params) mg "made" PB.s_made ["question", "sorts"] := by
      refine' PB.at_mk KX G (fun _ _ _ _ _ _ us hl => match us, hl with | [_, _], _ => rfl) ?a ?l ?c ?k
      (case a => k_is); (case l => k_is); (case c => k_is); (case k => k_is)
    have a_l_feed : PB.At (headA.heap_39 w.params) mg "_law_feed" PB.s_l_feed ["_law_script", "_law_k"] := by
      refine' PB.at_mk KX G (fun _ _ _ _ _ _ us hl => match us, hl with | [_, _], _ => rfl) ?a ?l ?c ?k
      (case a => k_is); (case l => k_is); (case c => k_is); (case k => k_is)
    have a_l_next : PB.At (headA.heap_39 w.params) mg "_law_next" PB.s_l_next ["_law_feed_here", "_law_many_here"] := by
      refine' PB.at_mk KX G (fun _ _ _ _ _ _ us hl => match us, hl with | [_, _], _ => rfl) ?a ?l ?c ?k
      (case a => k_is); (case l => k_is); (case c => k_is); (case k => k_is)
    have a_l_one : PB.At (headA.heap_39 w.params) mg "_law_one" PB.s_l_one ["_law_feed_here", "_law_some_here"] := by
      refine' PB.at_mk KX G (fun _ _ _ _ _ _ us hl => match us, hl with | [_, _], _ => rfl) ?a ?l ?c ?k
      (case a => k_is); (case l => k_is); (case c => k_is); (case k => k_is)
    have a_l_some : PB.At (headA.heap_39 w.params) mg "_law_some" PB.s_l_some ["_law_feed_here", "_law_sorts", "_law_least"] := by
      refine' PB.at_mk KX G (fun _ _ _ _ _ _ us hl => match us, hl with | [_, _, _], _ => rfl) ?a ?l ?c ?k
      (case a => k_is); (case l => k_is); (case c => k_is); (case k => k_is)
    have a_l_plain : PB.At (headA.heap_39 w.params) mg "_law_plain" PB.s_l_plain ["_law_feed_here", "_law_sorts"] := by
      refine' PB.at_mk KX G (fun _ _ _ _ _ _ us hl => match us, hl with | [_, _], _ => rfl) ?a ?l ?c ?k
      (case a => k_is); (case l => k_is); (case c => k_is); (case k => k_is)
    have a_l_question : PB.At (headA.heap_39 w.params) mg "_law_question" PB.s_l_question ["_law_feed_here", "_law_sorts", "_law_size", "_law_deep"] := by
      refine' PB.at_mk KX G (fun _ _ _ _ _ _ us hl => match us, hl with | [_, _, _, _], _ => rfl) ?a ?l ?c ?k
      (case a => k_is); (case l => k_is); (case c => k_is); (case k => k_is)
    have a_l_behind : PB.At (headA.heap_39 w.params) mg "_law_behind" PB.s_l_behind ["_law_crowd_here", "_law_meeting"] := by
      refine' PB.at_mk KX G (fun _ _ _ _ _ _ us hl => match us, hl with | [_, _], _ => rfl) ?a ?l ?c ?k
      (case a => k_is); (case l => k_is); (case c => k_is); (case k => k_is)
    have a_l_can : PB.At (headA.heap_39 w.params) mg "_law_can" PB.s_l_can ["_law_rule_here", "_law_crowd_here"] := by
      refine' PB.at_mk KX G (fun _ _ _ _ _ _ us hl => match us, hl with | [_, _], _ => rfl) ?a ?l ?c ?k
      (case a => k_is); (case l => k_is); (case c => k_is); (case k => k_is)
    have a_l_crowd : PB.At (headA.heap_39 w.params) mg "_law_crowd" PB.s_l_crowd ["_law_rule_here", "_law_counts"] := by
      refine' PB.at_mk KX G (fun _ _ _ _ _ _ us hl => match us, hl with | [_, _], _ => rfl) ?a ?l ?c ?k
      (case a => k_is); (case l => k_is); (case c => k_is); (case k => k_is)
    have a_l_rule : PB.At (headA.heap_39 w.params) mg "_law_rule" PB.s_l_rule ["_law_feed_here", "_law_most", "_law_sorts"] := by
      refine' PB.at_mk KX G (fun _ _ _ _ _ _ us hl => match us, hl with | [_, _, _], _ => rfl) ?a ?l ?c ?k
      (case a => k_is); (case l => k_is); (case c => k_is); (case k => k_is)
    have a_l_truth : PB.At (headA.heap_39 w.params) mg "_law_truth" PB.s_l_truth ["_law_question_here", "_law_counts"] := by
      refine' PB.at_mk KX G (fun _ _ _ _ _ _ us hl => match us, hl with | [_, _], _ => rfl) ?a ?l ?c ?k
      (case a => k_is); (case l => k_is); (case c => k_is); (case k => k_is)
    have a_l_after : PB.At (headA.heap_39 w.params) mg "_law_after" PB.s_l_after ["_law_rule_here", "_law_crowd_here"] := by
      refine' PB.at_mk KX G (fun _ _ _ _ _ _ us hl => match us, hl with | [_, _], _ => rfl) ?a ?l ?c ?k
      (case a => k_is); (case l => k_is); (case c => k_is); (case k => k_is)
    have a_l_leading : PB.At (headA.heap_39 w.params) mg "_law_leading" PB.s_l_leading ["_law_after_here", "_law_some_here"] := by
      refine' PB.at_mk KX G (fun _ _ _ _ _ _ us hl => match us, hl with | [_, _], _ => rfl) ?a ?l ?c ?k
      (case a => k_is); (case l => k_is); (case c => k_is); (case k => k_is)
    have a_l_many : PB.At (headA.heap_39 w.params) mg "_law_many" PB.s_l_many ["_law_crowd_here", "_law_rooms"] := by
      refine' PB.at_mk KX G (fun _ _ _ _ _ _ us hl => match us, hl with | [_, _], _ => rfl) ?a ?l ?c ?k
      (case a => k_is); (case l => k_is); (case c => k_is); (case k => k_is)
    have a_l_answers : PB.At (headA.heap_39 w.params) mg "_law_answers" PB.s_l_answers ["_law_rule_here", "_law_question_here", "_law_counts"] := by
      refine' PB.at_mk KX G (fun _ _ _ _ _ _ us hl => match us, hl with | [_, _, _], _ => rfl) ?a ?l ?c ?k
      (case a => k_is); (case l => k_is); (case c => k_is); (case k => k_is)
    have a_l_near : PB.At (headA.heap_39 w.params) mg "_law_near" PB.s_l_near ["_law_feed_here", "_law_sorts"] := by
      refine' PB.at_mk KX G (fun _ _ _ _ _ _ us hl => match us, hl with | [_, _], _ => rfl) ?a ?l ?c ?k
      (case a => k_is); (case l => k_is); (case c => k_is); (case k => k_is)
    have a_l_begins : PB.At (headA.heap_39 w.params) mg "_law_begins" PB.s_l_begins ["_law_sorts", "_law_few", "_law_most"] := by
      refine' PB.at_mk KX G (fun _ _ _ _ _ _ us hl => match us, hl with | [_, _, _], _ => rfl) ?a ?l ?c ?k
      (case a => k_is); (case l => k_is); (case c => k_is); (case k => k_is)
    have a_answers : PB.AtD (headA.heap_39 w.params) mg "answers" PB.s_answers ["rule", "question", "counts", "limit"] [.int 1000] := by
      refine' PB.atD_mk KX G 3 0 rfl (fun _ _ _ _ _ _ _ us its hl hi => match us, its, hl, hi with | [_, _, _], [_], _, _ => ⟨_, rfl, rfl⟩) ?a ?l ?c ?k ?t
      (case a => k_is); (case l => k_is); (case c => k_is); (case k => k_is); (case t => k_is)
    have a_err_at : PB.AtD (headA.heap_39 w.params) mg "err_at" PB.s_err_at ["rule", "question", "counts", "limit"] [] := by
      refine' PB.atD_mk KX G 4 1 rfl (fun _ _ _ _ _ _ _ us its hl hi => match us, its, hl, hi with | [_, _, _, _], [_], _, _ => ⟨_, rfl, rfl⟩) ?a ?l ?c ?k ?t
      (case a => k_is); (case l => k_is); (case c => k_is); (case k => k_is); (case t => k_is)
    have a_err_at3 : PB.AtD (headA.heap_39 w.params) mg "err_at" PB.s_err_at ["rule", "question", "counts", "limit"] [.int 1000] := by
      refine' PB.atD_mk KX G 3 0 rfl (fun _ _ _ _ _ _ _ us its hl hi => match us, its, hl, hi with | [_, _, _], [_], _, _ => ⟨_, rfl, rfl⟩) ?a ?l ?c ?k ?t
      (case a => k_is); (case l => k_is); (case c => k_is); (case k => k_is); (case t => k_is)
    have a_err_of : PB.AtD (headA.heap_39 w.params) mg "err_of" PB.s_err_of ["rule", "question", "most", "limit"] [.int 1000] := by
      refine' PB.atD_mk KX G 3 0 rfl (fun _ _ _ _ _ _ _ us its hl hi => match us, its, hl, hi with | [_, _, _], [_], _, _ => ⟨_, rfl, rfl⟩) ?a ?l ?c ?k ?t
      (case a => k_is); (case l => k_is); (case c => k_is); (case k => k_is); (case t => k_is)
    have Z : PB.BN mg := ⟨PySem.W.mg_none_of KX G (n := "len") (by k_is), PySem.W.mg_none_of KX G (n := "sum") (by k_is), PySem.W.mg_none_of KX G (n := "range") (by k_is), PySem.W.mg_none_of KX G (n := "tuple") (by k_is), PySem.W.mg_none_of KX G (n := "list") (by k_is), PySem.W.mg_none_of KX G (n := "dict") (by k_is), PySem.W.mg_none_of KX G (n := "isinstance") (by k_is), PySem.W.mg_none_of KX G (n := "int") (by k_is), PySem.W.mg_none_of KX G (n := "bool") (by k_is), PySem.W.mg_none_of KX G (n := "enumerate") (by k_is), PySem.W.mg_none_of KX G (n := "sorted") (by k_is), PySem.W.mg_none_of KX G (n := "repr") (by k_is), PySem.W.mg_none_of KX G (n := "max") (by k_is), PySem.W.mg_none_of KX G (n := "min") (by k_is), PySem.W.mg_none_of KX G (n := "abs") (by k_is), PySem.W.mg_none_of KX G (n := "all") (by k_is), PySem.W.mg_none_of KX G (n := "any") (by k_is)⟩
    have g0 : ∃ t, mg "MOST_HANDS_rules" = some (.int 1000000 t) := ⟨279, PySem.W.mg_of KX G (by kernel_rfl)⟩
    have g1 : ∃ t, mg "MOST_HANDS_errchecker" = some (.int 60 t) := ⟨479, PySem.W.mg_of KX G (by kernel_rfl)⟩
    have g2 : ∃ t, mg "MOST_ROOMS" = some (.int 40 t) := ⟨277, PySem.W.mg_of KX G (by kernel_rfl)⟩
    have FF : PB.LF (headA.heap_39 w.params) mg := ⟨Z, ⟨g0, g1, g2⟩, a_is_whole, a_is_from, a_may_be, a_can, a_is_next, a_crowd_behind, a_met, a_graph_of, a_begun, a_hands_of, a_holds, a_truth_word, a_ranks_to, a_said, a_gone_through, a_row_to, a_beginnings, a_is_number, a_passed_along, a_is_counts, a_ask_shape, a_is_crowd, a_is_ranked, a_ask_ranks, a_ask_ways, a_lets_err, a_started, a_made_least, a_made_more, a_made_rest, a_rooms_for, a_made_small, a_made, a_l_feed, a_l_next, a_l_one, a_l_some, a_l_plain, a_l_question, a_l_behind, a_l_can, a_l_crowd, a_l_rule, a_l_truth, a_l_after, a_l_leading, a_l_many, a_l_answers, a_l_near, a_l_begins, a_answers, a_err_at, a_err_at3, a_err_of⟩
    refine' PB.law_end (Pt := 441) FF KX G hmg (hT8 441 List.mem_cons_self) ?a ?l ?c ?hh ?nT
    (case a => k_is); (case l => k_is); (case c => k_is); (case hh => kernel_rfl); (case nT => kernel_rfl)
