import PyProof.Rows.All
import Wide.All
import OpenK.AllK
import Wide.FinOn
import HandS.ForMost
import HandS.Zip
import HandS.TupMul
import HandS.TupAny
import HandS.TupLen
import HandS.DictComp
import HandS.Deep
import HandS.OwnEq
import HandS.IsInst
import HandS.TupLe
import HandS.Walk
import KE.KDictCopyH
import KE.KDictDisplayH
import KE.KDictKeyed
import KE.KeyNested
import KE.GoesMore
import PyProof.InstNe
import HandS.Evl
import PySem.Challenge.RW_latestword_k64_whole_least_rows_that_are
set_option Elab.async false
set_option linter.all false
set_option maxRecDepth 100000
set_option maxHeartbeats 4000000
/-! Rules of the hand layer that this program needs besides: tuple * 1, != by an own ==, nested tuples compared, dicts with tuple keys displayed, copied, made by a comprehension, dicts with nested keys, enumerate of a tuple. -/
namespace LW
open PySem PySem.Spec PyProof.Rows L2 RZ

/-! ### t * 1 is t itself -/
theorem tuple_mulOne (l : Addr) (items : Array Value) (n : Nat) (sl : Array (Option Value)) (dd : Option Addr) (u : Tok) :
    Meets (Builtin.«tuple.__mul__» ⟨[.ref l, .int 1 u], []⟩) (fun _ R s => s.heap.get? l = some { cls := .type "tuple", dict := dd, data := .seq items n, slots := sl } ∧
      R (.ok (.ret (Value.ref l))) s) :=
  .of_wp fun prog w A R s h => by
    obtain ⟨hp, g, d, tk, os⟩ := s
    obtain ⟨hl, h⟩ := h
    have f1 := AutoSeq1.idx_int
    have f2 := AutoSeq1.sub_tuple_tuple
    have c1 : (items.isEmpty || (1 : Int) == 1) = true := by simp
    wp_walk using wpAny_loadPart' hl
    all_goals try (refine wpAny_ite_true c1 ?_; wp_walk using wpAny_loadPart' hl)
    exact ⟨_, rfl, h⟩

/-- t * k, k from 1 on: t itself where k is 1 -/
def rRepA (K : PySem.W.Frag) : R2 := fun x y H Q => ∃ l k xs, x = .ref l ∧ y = .int k ∧ SqT K H l xs ∧ xs ≠ [] ∧ 1 ≤ k ∧ k ≤ 1000 ∧ xs.length ≤ 1000 ∧
  (k = 1 → Q (.ref l) H) ∧ (2 ≤ k → ∀ p, H p = none → Q (.ref p) (upd H p (.tup (List.replicate k.toNat xs).flatten)))
section
variable {X : Cx}
theorem op_repA : OpR X (binaryOp .Mult) (rRepA X.K) := by
  intro pins s σ H x y v u Q I rx ry h
  obtain ⟨l, k, xs, rfl, rfl, hT, hne, h1, h2, hz, q1, q2⟩ := h
  by_cases hk : 2 ≤ k
  · exact op_repT pins s σ H _ _ v u Q I rx ry ⟨l, k, xs, rfl, rfl, hT, hne, hk, h2, hz, q2 hk⟩
  · have hk1 : k = 1 := by omega
    subst hk1
    cases rx
    obtain ⟨t, rfl⟩ := ry
    obtain ⟨its, r, ⟨⟨cls, dd, data, sl⟩, ho, hc, n, hd⟩, hs⟩ := I.tuple hT
    simp only at hc hd
    subst hc hd
    have hT2 : s.TypeIs (.ref l) "tuple" := ⟨_, ho, rfl⟩
    have step := call_meets (Q := EP X pins σ Q) (E := X.xe) PySem.F.slot_tuple_mul hT2 PySem.F.entry_tuple_mul (PySem.F.args_tuple_mul_2 _ _) (tuple_mulOne l its.toArray n sl dd t) (prog := X.prog) (w := X.w) (A := X.A) (s := s)
    refine wpAny_binaryOp_repeat_ref (T := "tuple") (U := "int") (by decide) ⟨_, ho, rfl⟩ (fun s' => typeIs_int s' 1 t) noFill_tuple_mul F.fills_int_mul F.slot_int_rmul repeat_tuple F.slot_int_index.lookup ?_
    exact call_meets F.slot_int_rmul (typeIs_int s 1 t) F.entry_int_rmul (F.args_int_rmul_2 _ _) (int_rmul_tuple 1 t l its.toArray n dd sl) ⟨ho, rfl, ⟨_, ho, rfl⟩, step ⟨ho, ⟨.ref l, H, I, rfl, q1 rfl⟩⟩⟩
end

/-! ### != by the class's own == -/
/-- what the class at C (its namespace at N) shows: an own == at f, no own != -/
structure NeCls (K : PySem.W.Frag) (C f : Addr) : Prop where
  ex : ∃ (nm q : Str) (N : Addr) (bs : List Value) (hdct : Bool) (sn : List Str) (sub : List Value) (ab : Bool) (col : Option Bool) (dd : Option Addr) (k0 k1 k2 k3 k5 : Option Value) (newId : String) (fo : Obj),
    K.lookup C = some (excClassObj nm q C N bs [.type "object"] hdct sn sub ab col dd k0 k1 k2 k3 k5 newId) ∧ PySem.W.nsOkIn K N = true ∧
    PySem.W.nsIn K N "__eq__" = some (some (.ref f)) ∧ PySem.W.nsIn K N "__ne__" = some none ∧ K.lookup f = some fo ∧ fo.cls = .type "function"
theorem ns_some_of {K : PySem.W.Frag} {h : Heap} {N : Addr} {mg : Str → Option Value} {x : Str} {v : Value} (X : K.In h) (G : h.Ns N mg) (e : PySem.W.nsIn K N x = some (some v)) : mg x = some v := by
  obtain ⟨ob, ens, epo, hob, hdat, _, look⟩ := G
  unfold PySem.W.nsIn at e
  split at e
  · rename_i cc dd ens2 np sls lk
    have same := X _ _ lk
    rw [hob] at same
    cases same
    cases hdat
    split at e
    · rename_i en hen
      cases e
      rw [← look]
      unfold nsFind findBy
      rw [← Array.find?_toList, hen]
      rfl
    · split at e <;> cases e
  · cases e
theorem NeCls.heap {K : PySem.W.Frag} {h : Heap} {C f x : Addr} {o : Obj} (n : NeCls K C f) (X : K.In h) (hx : h.get? x = some o) (hc : o.cls = .ref C) : h.OwnEqNoNe x C f "object" [.type "object"] := by
  obtain ⟨nm, q, N, bs, hdct, sn, sub, ab, col, dd, k0, k1, k2, k3, k5, newId, fo, lC, oN, eE, eN, lf, fc⟩ := n.ex
  have hns := Heap.Ns.of_isNs (PySem.W.isNs_of_in X oN)
  exact ⟨o, fo, nm, q, N, bs, hdct, sn, sub, ab, col, dd, k0, k1, k2, k3, k5, newId, h.nsMap N, _, hx, hc, X _ _ lC, hns, ns_some_of X hns eE, X _ _ lf, fc, PySem.F.mro_object, PySem.F.cmp_object.eq.lookup, PySem.W.ns_none_of X hns eN⟩
/-- x != y of two instances of the class at C; sp: what its == promises -/
def rNeO (C : Addr) (sp : Sp) : R2 := fun x y H Q => ∃ a b dx dy fs gs, x = .ref a ∧ y = .ref b ∧ H a = some (.ins C dx fs) ∧ H b = some (.ins C dy gs) ∧ sp [.ref a, .ref b] H (fun v H' => ∃ k, v = .bl k ∧ Q (.bl (!k)) H') E0
section
variable {X : Cx}
theorem op_neO {C f : Addr} {fd : FuncData} {ps : List Str} {n : Nat} {sp : Sp} (F : FnOk X.prog X.w X.K X.mg X.base CX0 n f fd ps sp) (hC : NeCls X.K C f) (hb : Binds X.K fd ps []) (hr : Room (n + 1) X.A) : OpR X (compareOp .NotEq) (rNeO C sp) := by
  intro pins s σ H x y v u Q I rx ry h
  obtain ⟨a, b, dx, dy, fs, gs, rfl, rfl, ha, hb', hsp⟩ := h
  cases rx
  cases ry
  obtain ⟨_, _, _, ga, _⟩ := I.hok a _ ha
  obtain ⟨_, _, _, gb, _⟩ := I.hok b _ hb'
  have W := hC.heap I.kIn ga rfl
  have e0 : Env0 X.prog X.w X.K X.mg X.base X.A.in1 X.stack s H := I.env0.in1
  have hl := F.len _ _ _ _ hsp
  have r2 : Vals [V.ref a, V.ref b] [Value.ref a, Value.ref b] := .cons rfl (.cons rfl .nil)
  obtain ⟨hh, gg, dd, tt, oo⟩ := s
  refine compareOp_ne_ownEq PySem.F.cmp_object W gb rfl (hu_of hr) (wpAny_call (codeAny_mono (F.run X.A.in1 X.stack _ H ⟨[.ref a, .ref b], []⟩ [.ref a, .ref b] [.ref a, .ref b] _ E0 hr.in1 e0 (by
    have bb := hb ⟨hh, gg, dd, tt, oo⟩ [.ref a, .ref b] I.kIn (by simpa using hl)
    simpa using bb) r2 hsp) fun r s' hq => ?_))
  cases r with
  | error e => exact (show False from hq).elim
  | ok fl =>
    cases fl with
    | ret w =>
      obtain ⟨z, H', I', rz, k, ez, q⟩ := I.after hq
      subst ez
      cases rz
      exact ⟨k, rfl, .bl (!k), H', I', rfl, q⟩
    | next => exact (show False from hq).elim
    | brk => exact (show False from hq).elim
    | cont => exact (show False from hq).elim
end

/-! ### enumerate of a tuple -/
theorem meets_enum_begin {v : Value} {o : Obj} {G : Heap → Prop} (B : Begins v o G) :
    Meets (Builtin.«enumerate.__new__» ⟨[.type "enumerate", v], []⟩) (fun _ R s => G s.heap ∧
      R (.ok (.ret (.ref (s.heap.push o).objs.size))) { s with heap := (s.heap.push o).push { cls := .type "enumerate", data := .fields #[.none, .bool false, .ref s.heap.objs.size, rawInt 0, .none, .none] } }) :=
  .of_wp fun prog w A R s h => by
    obtain ⟨hp, g, d, tk, os⟩ := s
    obtain ⟨hG, hR⟩ := h
    have isSub := sub_enumerate
    have begun : ∀ {A' : Around} {E : Value → Shared → Prop} {Q : Value → Shared → Prop}, Q (.ref hp.objs.size) ⟨hp.push o, g, d, tk, os⟩ → wpAny (model prog w) A' (pyIter v) Q E ⟨hp, g, d, tk, os⟩ :=
      fun q => B.iter prog w _ _ ⟨hp, g, d, tk, os⟩ _ hG q
    wp_walk using begun
    refine wpAny_stack_any fun st => wpAny_pure ?_
    split
    · rename_i c _ _ _ _ _
      cases (c == Value.type "enumerate")
      · wp_walk using begun
        exact ⟨_, rfl, hR⟩
      · wp_walk using begun
        exact ⟨_, rfl, hR⟩
    · wp_walk using begun
      exact ⟨_, rfl, hR⟩
section
variable {prog : Program} {w : World} {A : Around} {E : Value → Shared → Prop} {s : Shared}
theorem call_enum_tup {t : Addr} {items : Array Value} {Q : Value → Shared → Prop} (hT : s.heap.IsTuple t items)
    (h : ∀ h', IsEnum h' (s.heap.objs.size + 1) s.heap.objs.size 0 .none → h'.IsTupleIter s.heap.objs.size t 0 → (∀ b o, s.heap.get? b = some o → h'.get? b = some o) → Q (.ref (s.heap.objs.size + 1)) { s with heap := h' }) :
    wpAny (model prog w) A (call (.type "enumerate") [.ref t]) Q E s := by
  refine callType_new F.called_enumerate (by decide) (F.typeCall_enumerate_1 _) (F.newCall_enumerate_1 _) (fun obj => F.args_object_init_2 obj _) F.entry_enumerate_new (meets_enum_begin (begins_tuple t items)) ⟨hT, ?_⟩
  generalize ei : ({ cls := .type "tuple_iterator", data := .fields #[.ref t, .int 0 0] } : Obj) = oi
  have size1 : (s.heap.push oi).objs.size = s.heap.objs.size + 1 := Heap.size_push ..
  show _ ∧ _
  rw [size1]
  have isE : IsEnum ((s.heap.push oi).push { cls := .type "enumerate", data := .fields #[.none, .bool false, .ref s.heap.objs.size, rawInt 0, .none, .none] }) (s.heap.objs.size + 1) s.heap.objs.size 0 .none := by
    have at1 := Heap.get?_push_size (s.heap.push oi) (o := { cls := .type "enumerate", data := .fields #[.none, .bool false, .ref s.heap.objs.size, rawInt 0, .none, .none] }) rfl
    rw [size1] at at1
    exact at1
  refine ⟨⟨_, isE, rfl⟩, h _ isE ⟨oi, Heap.get?_push_of_some _ (Heap.get?_push_size _ (by rw [← ei]; rfl)), by rw [← ei], by rw [← ei]; rfl⟩ fun b o q => Heap.get?_push_of_some _ (Heap.get?_push_of_some _ q)⟩
end
/-- the tuple at a, each item in a new pair with its number -/
def IteT (K : PySem.W.Frag) (a : Addr) : It :=
  ⟨fun i H => ∃ (xs : List V) (x : V), SqT K H a xs ∧ xs[i]? = some x,
   fun i H v H' => ∃ T x, v = .ref T ∧ H T = none ∧ H' = upd H T (.tup [.int (i : Nat), x]) ∧ ∀ xs, SqT K H a xs → xs[i]? = some x,
   fun i H => ∃ xs : List V, SqT K H a xs ∧ xs.length = i⟩
theorem turn_enumT {P : Program} {w : World} {K : PySem.W.Frag} {elts : List Expr} {kk : Nat} {tpos : Pos} (a e it : Addr) :
    Turn P w K (.Tuple elts kk tpos) (IteT K a) [e, it] e (fun i h => (∃ old, IsEnum h e it ((i : Nat) : Int) old) ∧ h.IsTupleIter it a i ∧ e ≠ it) where
  mem := by simp
  obj := fun i h st b hb => by
    obtain ⟨⟨old, isE⟩, ⟨o, ho, _, hd⟩, _⟩ := st
    rcases (by simpa using hb : b = e ∨ b = it) with z | z
    · subst z
      exact ⟨_, isE, fun v q => nomatch q⟩
    · subst z
      exact ⟨o, ho, fun v q => by rw [hd] at q; cases q⟩
  keep := fun i h h' st k => by
    obtain ⟨⟨old, isE⟩, isT, hne⟩ := st
    exact ⟨⟨old, k e (by simp) _ isE⟩, isT.at fun o q => k it (by simp) o q, hne⟩
  item := by
    intro X hP hw hK hc i pins s σ H E I hf st hg
    subst hP hw hK
    obtain ⟨⟨old, isE⟩, isT, hne⟩ := st
    obtain ⟨xs, x, hq, hx⟩ := hg
    obtain ⟨its, rv, tup, hz⟩ := I.tuple hq
    obtain ⟨u, hu, ru⟩ := rv.get hx
    have hi : i < its.toArray.size := by
      have q := (List.getElem?_eq_some_iff.mp hu).1
      simpa using q
    have eL : e < s.heap.objs.size := Heap.lt_size isE
    have itL : it < s.heap.objs.size := by obtain ⟨_, q, _⟩ := isT; exact Heap.lt_size q
    have aIt : a ≠ it := fun z => by
      obtain ⟨o1, q1, c1, _⟩ := isT
      obtain ⟨o2, q2, c2, _⟩ := tup
      rw [z, q1] at q2
      cases q2
      rw [c1] at c2
      exact absurd c2 (by decide)
    have aE : a ≠ e := fun z => by
      obtain ⟨o2, q2, c2, _⟩ := tup
      rw [z, isE] at q2
      cases q2
      exact absurd (show Value.type "enumerate" = Value.type "tuple" from c2) (by decide)
    have hh : X.A.in1.handled = none := I.ok.hd hc
    refine wpAny_pyNext_enum_itemD (Draws.tuple hh it a aIt its.toArray) isE ⟨isT, tup⟩ hi hne (by simp [hne, Ne.symm aE]) fun x' h' tk hPx hout hSt hT hsz hk => ?_
    have hx' : x' = u := by
      have q : its.toArray[i]? = some x' := hPx
      have q' : its.toArray[i]? = some u := by simpa using hu
      rw [q] at q'
      exact Option.some.inj q'
    subst hx'
    refine ⟨_, rfl, wpAny_letOwnedTupleGo_enum (s := { s with heap := h', toks := tk + 1 }) hout fun h'' isE' sb => ?_⟩
    have atT : h''.get? s.heap.objs.size = some { cls := .type "tuple", data := .seq #[.int i tk, x'] } := (sb.2 _ (Nat.ne_of_gt eL)).trans hT
    have new : ObjOk X.prog X.w (upd H s.heap.objs.size (.tup [.int (i : Nat), x])) h'' s.heap.objs.size (.tup [.int (i : Nat), x]) :=
      ⟨by show 2 ≤ sizeLine; decide, [.int i tk, x'], .cons ⟨_, rfl⟩ (.cons ru .nil), ⟨_, atT, rfl, _, rfl⟩⟩
    have I1 : Inv X pins σ (upd H s.heap.objs.size (.tup [.int (i : Nat), x])) { s with heap := h'', toks := tk + 1 } :=
      I.turnedNew (ch := [e, it]) (fun b ob hb q => (sb.2 b (fun z => hb (by simp [z]))).trans (hk b ob (fun z => hb (by simp [z])) (fun z => hb (by simp [z])) q)) hf (Nat.le_refl _) new
    refine ⟨.ref s.heap.objs.size, _, I1, rfl, ⟨_, x, rfl, I.hok.fresh (Nat.le_refl _), rfl, fun ys hy => by rw [I.tuple_inj hy hq]; exact hx⟩, ⟨⟨x', ?_⟩, hSt.1.at fun o q => (sb.2 it (Ne.symm hne)).trans q, hne⟩, fun b hb => ?_⟩
    · rw [show ((i + 1 : Nat) : Int) = (i : Int) + 1 by omega]
      exact isE'
    · have old' : b < s.heap.objs.size := by
        rcases (by simpa using hb : b = e ∨ b = it) with z | z
        · rw [z]; exact eL
        · rw [z]; exact itL
      rw [upd_ne (Nat.ne_of_lt old')]
      exact (hf b hb).1
  done := by
    intro X hP hw hK hc i pins s σ H E I hf st hg
    subst hP hw hK
    obtain ⟨⟨old, isE⟩, isT, hne⟩ := st
    obtain ⟨xs, hq, hx⟩ := hg
    obtain ⟨its, rv, tup, hz⟩ := I.tuple hq
    obtain ⟨f0, f1, f2, f3, f4, f5⟩ := hf it (by simp)
    have aIt : a ≠ it := fun z => by
      obtain ⟨o1, q1, c1, _⟩ := isT
      obtain ⟨o2, q2, c2, _⟩ := tup
      rw [z, q1] at q2
      cases q2
      rw [c1] at c2
      exact absurd c2 (by decide)
    have hh : X.A.in1.handled = none := I.ok.hd hc
    have hl := rv.length
    have hn : its.toArray.size = i := by simp; omega
    have D := Draws.tuple hh it a aIt its.toArray (prog := X.prog) (w := X.w)
    rw [hn] at D
    exact wpAny_pyNext_enum_endD D isE ⟨isT, tup⟩ fun h' eb => ⟨rfl, I.turned (t' := s.toks) (fun b o hb q => eb b o hb q) f0 f1 f3 f4 f5⟩
  self := fun A i s Q E st h => let ⟨⟨_, isE⟩, _⟩ := st; wpAny_pyIter_enum isE h
def iEnumT (K : PySem.W.Frag) (ta : TA) : TI := fun σ H R => ta σ H fun vs H1 => ∃ a xs, vs = [.ref a] ∧ SqT K H1 a xs ∧ R (IteT K a) H1
theorem pi_enumT {X : Cx} {e : Expr} {ta : TA} {p pos tpos : Pos} {elts : List Expr} {kk : Nat} (hg : Gl X "enumerate") (hm : X.mg "enumerate" = none) (ha : PA X [e] ta) (one : starEach [e] X.env = [(false, eval e X.env)] := by rfl) :
    PI X (.Tuple elts kk tpos) (.Call (.Name "enumerate" p) [e] [] pos) (iEnumT X.K ta) := by
  refine ⟨fun pins s σ H R I h => ?_⟩
  refine Call_ (ld_blt I hg hm boot_enumerate (PyProof.Rows.callWith_type1 (thn (ha.run pos pins s σ H _ I h) fun us s1 ⟨vs, H1, I1, r1, q1⟩ => ?_) one rfl))
  obtain ⟨a, xs, rfl, hq, q⟩ := q1
  obtain ⟨u, rfl, ru⟩ := vals1 r1
  cases ru
  obtain ⟨its, rv, tup, hz⟩ := I1.tuple hq
  refine call_enum_tup tup fun h' isE isT hk => wpAny_pyIter_enum isE ?_
  refine ⟨s1.heap.objs.size + 1, [s1.heap.objs.size + 1, s1.heap.objs.size], _, _, H1, rfl, I1.kept (t' := s1.toks) hk, turn_enumT a (s1.heap.objs.size + 1) s1.heap.objs.size, ⟨⟨.none, isE⟩, isT, Nat.succ_ne_self _⟩, fun b hb => ?_, q⟩
  have above : s1.heap.objs.size ≤ b := by
    rcases (by simpa using hb : b = s1.heap.objs.size + 1 ∨ b = s1.heap.objs.size) with z | z
    · exact z ▸ Nat.le_succ _
    · exact z ▸ Nat.le_refl _
  exact I1.fpOk above (I1.hok.fresh above)
theorem walk_enumT {K : PySem.W.Frag} {a : Addr} {xs : List V} : Walk (IteT K a) xs.length (fun H => SqT K H a xs) (YPair (fun i => some (.int (i : Nat))) (fun i => xs[i]?)) := by
  refine ⟨fun i _ hi q => ⟨xs, xs[i], q, by simp [hi]⟩, fun _ q => ⟨xs, q, rfl⟩, fun i H v H' _ q y => ?_⟩
  obtain ⟨T, x, h1, h2, h3, h4⟩ := y
  exact ⟨T, .int (i : Nat), x, h1, h2, h3, rfl, h4 xs q⟩
/-- zip of two tuples -/
theorem walk_zipTT {K : PySem.W.Frag} {a b : Addr} {xs ys : List V} {n : Nat} (hn : n = min xs.length ys.length) : Walk (ItzT K a b) n (fun H => SqT K H a xs ∧ SqT K H b ys) (YPair (fun i => xs[i]?) (fun i => ys[i]?)) := by
  subst hn
  refine ⟨fun i _ hi q => ?_, fun _ q => ⟨xs, ys, q.1, q.2, by omega⟩, fun i H v H' _ q y => ?_⟩
  · have h1 : i < xs.length := by omega
    have h2 : i < ys.length := by omega
    exact ⟨xs, ys, xs[i], ys[i], q.1, q.2, by simp [h1], by simp [h2]⟩
  · obtain ⟨T, x, z, h1, h2, h3, h4, h5⟩ := y
    exact ⟨T, x, z, h1, h2, h3, h4 xs q.1, h5 ys q.2⟩

/-! ### (n, t) < (m, u): a number, then a tuple of numbers -/
/-- by the numbers, then the tuples -/
def nestLt (n : Int) (ns : List Int) (m : Int) (ms : List Int) : Bool := if n = m then (!decide (ns = ms)) && HT.lexLt ns ms else decide (n < m)
theorem lex_same : ∀ ns : List Int, HT.lexLt ns ns = false
  | [] => rfl
  | n :: ns => by rw [HT.lexLt_cons, if_pos rfl, lex_same ns]
def numKey (ns : List Int) : NestedKey := .tup (ns.map .num)
theorem nest_ints {h : Heap} : ∀ {ns : List Int} {us : List Value}, Vals (ns.map V.int) us → NestedAll h (ns.map .num) us
  | [], _, r => by cases r; exact .nil
  | n :: ns, _, r => by
    cases r with
    | cons r1 r2 =>
      obtain ⟨t, rfl⟩ := r1
      exact .cons (.int _ _) (nest_ints r2)
theorem num_inj : ∀ {ns ms : List Int}, ns.map NestedKey.num = ms.map NestedKey.num → ns = ms
  | [], [], _ => rfl
  | [], _ :: _, e => by cases e
  | _ :: _, [], e => by cases e
  | n :: ns, m :: ms, e => by
    rw [List.map_cons, List.map_cons] at e
    injection e with e1 e2
    injection e1 with e1
    rw [e1, num_inj e2]
theorem depth_nums : ∀ ns : List Int, NestedKey.depthAll (ns.map .num) = 0
  | [] => by simp [NestedKey.depthAll]
  | n :: ns => by simp [NestedKey.depthAll, NestedKey.depth, depth_nums ns]
end LW
namespace LW
open PySem PySem.Spec PyProof.Rows L2 RZ
theorem numKey_eq (ns ms : List Int) : NestedKey.beq (numKey ns) (numKey ms) = decide (ns = ms) := by
  rw [← NestedKey.decide_eq]
  by_cases e : ns = ms
  · rw [decide_eq_true e, decide_eq_true (by rw [e])]
  · rw [decide_eq_false e, decide_eq_false]
    intro q
    unfold numKey at q
    injection q with q
    exact e (num_inj q)
theorem intsAre_vals : ∀ {ns : List Int} {us : List Value}, Vals (ns.map V.int) us → IntsAre us ns
  | [], _, r => by cases r; exact .nil
  | n :: ns, _, r => by
    cases r with
    | cons r1 r2 =>
      obtain ⟨t, rfl⟩ := r1
      exact .cons _ _ (intsAre_vals r2)
/-- (n, t) < (m, u) -/
def rLtN (K : PySem.W.Frag) : R2 := fun x y H Q => ∃ a b p q n m ns ms, x = .ref a ∧ y = .ref b ∧ SqT K H a [.int n, .ref p] ∧ SqT K H b [.int m, .ref q] ∧ SqT K H p (ns.map V.int) ∧ SqT K H q (ms.map V.int) ∧
  Q (.bl (nestLt n ns m ms)) H
theorem op_ltN {X : Cx} (hu : X.A.units + 2 < cLine) : OpR X (compareOp .Lt) (rLtN X.K) := by
  intro pins s σ H x y v u Q I rx ry h
  obtain ⟨a, b, p, q, n, m, ns, ms, rfl, rfl, ha, hb, hp, hq, hQ⟩ := h
  cases rx
  cases ry
  obtain ⟨ia, ra, ta, _⟩ := I.tuple ha
  obtain ⟨ib, rb, tb, _⟩ := I.tuple hb
  obtain ⟨ip, rp, tp, _⟩ := I.tuple hp
  obtain ⟨iq, rq, tq, _⟩ := I.tuple hq
  obtain ⟨a1, a2, rfl, r1, r2⟩ := vals2 ra
  obtain ⟨b1, b2, rfl, r3, r4⟩ := vals2 rb
  obtain ⟨t1, rfl⟩ := r1
  cases r2
  obtain ⟨t3, rfl⟩ := r3
  cases r4
  have kp : NestedIs s.heap (numKey ns) (.ref p) := by
    obtain ⟨o, ho, hc, k, hd⟩ := tp
    exact .tup ho hc hd (by simpa using nest_ints rp)
  have kq : NestedIs s.heap (numKey ms) (.ref q) := by
    obtain ⟨o, ho, hc, k, hd⟩ := tq
    exact .tup ho hc hd (by simpa using nest_ints rq)
  have u1 : X.A.in1.units < cLine := Nat.lt_of_le_of_lt (Nat.le_succ _) hu
  have eqIn : SeqAt.EqAt X.A.in1 s (.ref p) (.ref q) (decide (ns = ms)) := by
    have z := eqAt_key (numKey ns) (numKey ms) X.A.in1 s (.ref p) (.ref q) kp kq (by
      unfold numKey
      rw [NestedKey.depth, NestedKey.depth, depth_nums, depth_nums]
      exact hu)
    rw [numKey_eq] at z
    exact z
  have ltIn : Ob.RcOp .Lt X.A.in1 s (.ref p) (.ref q) (HT.lexLt ns ms) := fun prog w E Q h =>
    HT.lt_tupInts (prog := prog) (w := w) (E := E) (Q := Q) tp tq (by simpa using intsAre_vals rp) (by simpa using intsAre_vals rq) u1 h
  have big := Ob.RcOp.tuples_lt (A := X.A) (e := fun j => if j = 0 then n == m else decide (ns = ms)) (r := fun j => if j = 0 then decide (n < m) else HT.lexLt ns ms) ta tb (Nat.lt_of_le_of_lt (Nat.le_add_right _ 2) hu)
    (fun j h1 h2 => by
      match j, h1, h2 with
      | 0, _, _ => exact SeqAt.EqAt.int_int n t1 m t3
      | 1, _, _ => exact eqIn) (fun j h1 h2 _ => by
      match j, h1, h2 with
      | 0, _, _ => exact Ob.RcOp.lt_int n m t1 t3
      | 1, _, _ => exact ltIn)
  show wpAny (model X.prog X.w) X.A (richCompare .Lt (.ref a) (.ref b)) (EP X pins σ Q) X.xe s
  refine big X.prog X.w X.xe _ ⟨.bl (nestLt n ns m ms), H, I, ?_, hQ⟩
  show Value.bool _ = Value.bool _
  congr 1
  show (if (n == m) = true then (if decide (ns = ms) = true then decide (2 < 2) else HT.lexLt ns ms) else decide (n < m)) = nestLt n ns m ms
  unfold nestLt
  by_cases e : n = m
  · subst e
    by_cases e2 : ns = ms
    · subst e2
      simp
    · simp [e2]
  · simp [e]
end LW
namespace LW
open PySem PySem.Spec PyProof.Rows L2 RZ
/-! ### dict(d) of a dict whose keys are tuples of numbers that hash apart -/
/-- the key that is a tuple of ints -/
def ik (ns : List Int) : List Key := ns.map Sum.inl
theorem ik_V (ns : List Int) : (ik ns).map kV = ns.map V.int := by
  unfold ik
  rw [List.map_map]
  rfl
theorem ik_inj {ns ms : List Int} (h : ik ns = ik ms) : ns = ms := by
  have q := congrArg (List.map kV) h
  rw [ik_V, ik_V] at q
  exact List.map_inj_right (fun a b e => by injection e) |>.mp q
/-- its hash -/
def hashNs (ns : List Int) : Int := reduceHash (Builtin.Tuple.tupleHashOf (ns.map hashInt))
theorem hash_ik (P : Program) (w : World) (ns : List Int) : (tupleKind (mixKind P w)).hash (ik ns) = hashNs ns := by
  show reduceHash (Builtin.Tuple.tupleHashOf ((ik ns).map (keyH w))) = _
  unfold ik hashNs
  rw [List.map_map]
  rfl
section
variable {prog : Program} {w : World} {K : Type} [DecidableEq K] {knd : HeapKind prog w K} {A : Around} {E : Value → Shared → Prop} {s : Shared}
theorem call_dict_keyed {o : Addr} {xs : List (K × Addr × Value)} {Q : Value → Shared → Prop} (hu : knd.room A.in1.in1) (oS : (o == sysModules) = false) (ho : s.heap.DictOfH knd o xs) (sz : xs.length ≤ sizeLine)
    (tys : ∀ x ∈ xs, s.TypeIs (.ref x.2.1) "tuple") (hap : (xs.map fun x => knd.hash x.1).Nodup) (push : ∀ q : Obj, (s.heap.push q).DictOfH knd o xs)
    (h : ∀ h', h'.DictOfH knd s.heap.objs.size xs → Heap.SameBut s.heap.objs.size (s.heap.push { cls := .type "dict", data := .dict #[] }) h' → Q (.ref s.heap.objs.size) { s with heap := h' }) :
    wpAny (model prog w) A (call (.type "dict") [.ref o]) Q E s := by
  refine callType_codes (Q₁ := fun obj s₁ => obj = .ref s.heap.objs.size ∧ s₁ = { s with heap := s.heap.push { cls := .type "dict", data := .dict #[] } }) F.kt_called_dict (F.kt_typeCall_dict_1 _) F.entry_dict_init (kt_code_dict_new _ ⟨rfl, rfl⟩) ?_
  rintro obj s₁ ⟨rfl, rfl⟩
  have fresh : (s.heap.push { cls := .type "dict", data := .dict #[] }).DictOfH knd s.heap.objs.size [] := Heap.DictOfH.new s.heap
  have there := push { cls := .type "dict", data := .dict #[] }
  have nd : (xs.map (·.1)).Nodup := by obtain ⟨_, _, _, _, _, _, _, _, nd⟩ := ho; exact nd
  have apart : s.heap.objs.size ≠ o := by
    obtain ⟨_, _, _, at0, _⟩ := ho
    exact fun e => absurd (Heap.lt_size at0) (by rw [e]; exact Nat.lt_irrefl _)
  refine ⟨fresh.typeIs, F.args_dict_init_2 _ _, ?_⟩
  unfold Builtin.«dict.__init__»
  refine wpAny_bind ?_
  unfold Builtin.Dict.selfAndRest
  refine wpAny_bind (wpAny_notOrdered_dict fresh.typeIs ?_)
  show wpAny _ _ (pure (s.heap.objs.size, [Value.ref o])) _ _ _
  refine wpAny_pure ?_
  refine updateFrom_dictH (A := A.in1) .none hu apart oS fresh there (.inr ⟨fun x hx => ?_, hap⟩) (by simpa using sz) fun h' d1 _ sb => ?_
  · obtain ⟨q, hq, hc⟩ := tys x hx
    exact ⟨q, Heap.get?_push_of_some _ hq, hc⟩
  · rw [storedAllH_nil_of_nodup xs nd] at d1
    exact ⟨rfl, h h' d1 sb⟩
end
def rCopyT : List V → Hp → VK → Prop := fun vs H Q => ∃ (a : Addr) (kvs : List (List Key × V)) (ns : List (List Int)), vs = [.ref a] ∧ H a = some (.dT kvs) ∧ kvs.map (·.1) = ns.map ik ∧ (ns.map hashNs).Nodup ∧
  ∀ p, H p = none → Q (.ref p) (upd H p (.dT kvs))
theorem call_copyT {X : Cx} (hu : X.A.units + 2 < cLine) : CallR X (.type "dict") rCopyT := by
  intro pins s σ H xs us Q I r h
  obtain ⟨a, kvs, ns, rfl, ha, hk, hap, q⟩ := h
  obtain ⟨u, rfl, ru⟩ := vals1 r
  cases ru
  obtain ⟨z, hd, ys, rel, dd⟩ := dt_of I.hok ha
  have hlen : kvs.length = ys.length := Paired.length rel
  have keysE : ys.map (·.1) = kvs.map (·.1) := by
    have go : ∀ {l1 : List (List Key × V)} {l2 : List (List Key × Addr × Value)}, KT H l1 l2 → l2.map (·.1) = l1.map (·.1) := by
      intro l1 l2 r
      induction r with
      | nil => rfl
      | cons hp _ ih => rw [List.map_cons, List.map_cons, ih, hp.1]
    exact go rel
  have tup : ∀ x ∈ ys, H x.2.1 = some (.tup (x.1.map kV)) := by
    have go : ∀ {l1 : List (List Key × V)} {l2 : List (List Key × Addr × Value)}, KT H l1 l2 → ∀ x ∈ l2, H x.2.1 = some (.tup (x.1.map kV)) := by
      intro l1 l2 r
      induction r with
      | nil => intro x hx; cases hx
      | cons hp _ ih =>
        intro x hx
        rcases List.mem_cons.mp hx with e | hx
        · rw [e, ← hp.1]
          exact hp.2.1
        · exact ih x hx
    exact go rel
  have hap' : (ys.map fun x => (tupleKind (mixKind X.prog X.w)).hash x.1).Nodup := by
    have e : (ys.map fun x => (tupleKind (mixKind X.prog X.w)).hash x.1) = ns.map hashNs := by
      have e1 : (ys.map fun x => (tupleKind (mixKind X.prog X.w)).hash x.1) = (ys.map (·.1)).map (tupleKind (mixKind X.prog X.w)).hash := by rw [List.map_map]; rfl
      rw [e1, keysE, hk, List.map_map]
      exact List.map_congr_left fun n _ => hash_ik X.prog X.w n
    rw [e]
    exact hap
  have tys : ∀ x ∈ ys, s.TypeIs (.ref x.2.1) "tuple" := fun x hx => by
    obtain ⟨_, _, _, ob, ho, hc, _⟩ := I.hok _ _ (tup x hx)
    exact ⟨ob, ho, hc⟩
  have hz : ys.length ≤ sizeLine := by rw [← hlen]; exact z
  refine call_dict_keyed (knd := tupleKind (mixKind X.prog X.w)) (show X.A.in1.in1.units < cLine from hu) hd dd hz tys hap' (fun q => ?_) fun h' d1 sb => ?_
  · obtain ⟨ob, es, ep, h1, h2, h3, h4, h5, h6⟩ := dd
    refine ⟨ob, es, ep, Heap.get?_push_of_some _ h1, h2, h3, h4, fun x hx => ?_, h6⟩
    have Ik := I.kept (h' := s.heap.push q) (t' := s.toks) fun b o e => Heap.get?_push_of_some _ e
    exact key_of Ik.hok (tup x hx)
  · have hn := I.hok.fresh (Nat.le_refl s.heap.objs.size)
    obtain ⟨ob, es, ep, h1, h2, h3, h4, h5, h6⟩ := d1
    refine ⟨.ref s.heap.objs.size, _, I.laid (a := s.heap.objs.size) (o := .dT kvs) (t' := s.toks) (fun b q hq => (sb.2 b (Nat.ne_of_lt (Heap.lt_size hq))).trans (Heap.get?_push_of_some _ hq)) (Nat.le_refl _) ?_, rfl, q _ hn⟩
    refine ⟨z, beq_eq_false_iff_ne.mpr (Ne.symm (Nat.ne_of_lt I.big)), ys, rel.keeps fun b zs e => ?_, ob, es, ep, h1, h2, h3, h4, h6⟩
    rw [upd_ne (ne_of_none e hn)]
    exact e

/-! ### {t: e}, the key an object -/
section
variable {prog : Program} {w : World} {K : Type} [DecidableEq K] {knd : HeapKind prog w K} {A : Around} {E : Value → Shared → Prop} {s : Shared}
theorem disp_one {env : Env} {k v : Expr} {pos : Pos} {Q : Value → Shared → Prop} (hu : knd.room A)
    (h : wpAny (model prog w) A (eval k env) (fun kv s1 => wpAny (model prog w) A (eval v env) (fun vv s2 => ∃ (b : Addr) (c : K), kv = .ref b ∧ knd.is s2.heap c b ∧ s2.heap.DictOfH knd s.heap.objs.size [] ∧
      ∀ h' tk, h'.DictOfH knd s.heap.objs.size [(c, b, vv)] → Heap.SameBut s.heap.objs.size s2.heap h' → Q (.ref s.heap.objs.size) { s2 with heap := h', toks := tk }) E s1) E
      { s with heap := s.heap.push { cls := .type "dict", data := .dict #[] } }) :
    wpAny (model prog w) A (eval (.Dict [some k] [v] pos) env) Q E s := by
  rw [arm_eval_Dict, zip_pairTrees [some k] [v] env pos rfl rfl, dictDisplay_pairs (pairTrees [some k] [v] env pos) (by simp [pairTrees]) (by simp [pairTrees])]
  refine wpAny_bind (wpAny_standAt (wpAny_bind (wpAny_subDictH (knd := knd) (Q := fun d s' => wpAny (model prog w) A (pure (Value.ref d)) Q E s') hu (by simp [pairTrees]) ?_)))
  refine pairTrees_cons_walk (wpAny_mono h (fun kv s1 h1 => wpAny_mono h1 (fun vv s2 h2 => pairTrees_nil_walk ?_) fun _ _ e => e) fun _ _ e => e)
  obtain ⟨b, c, rfl, hc, d0, q⟩ := h2
  exact ⟨[(c, b, vv)], ⟨rfl, rfl, hc, trivial⟩, d0, fun h' tk d1 sb => wpAny_pure (q h' tk d1 sb)⟩
end
/-- the key a tuple of numbers -/
def tDispT (tk tv : TE) : TE := fun σ H Q => ∀ p, H p = none → tk σ (upd H p (.dT [])) fun x H1 => tv σ H1 fun y H2 => H2 p = some (.dT []) ∧ ∃ (b : Addr) (ns : List Int), x = .ref b ∧ H2 b = some (.tup (ns.map V.int)) ∧ Q (.ref p) (upd H2 p (.dT [(ik ns, y)]))
theorem pe_dispT {X : Cx} {pos : Pos} {k v : Expr} {tk tv : TE} (hu : X.A.units + 1 < cLine) (hk : PE X k tk) (hv : PE X v tv) : PE X (.Dict [some k] [v] pos) (tDispT tk tv) := by
  refine ⟨fun pins s σ H Q I q => ?_⟩
  have hn := I.hok.fresh (Nat.le_refl s.heap.objs.size)
  have I0 := I.laid (a := s.heap.objs.size) (o := .dT []) (h' := s.heap.push { cls := .type "dict", data := .dict #[] }) (t' := s.toks) (fun _ _ e => Heap.get?_push_of_some _ e) (Nat.le_refl _) (dt_empty s.heap I.big)
  refine disp_one (knd := tupleKind (mixKind X.prog X.w)) (show X.A.units < cLine from Nat.lt_of_succ_lt hu) ?_
  refine thn (hk.run pins _ σ _ _ I0 (q _ hn)) fun kv s1 ⟨x, H1, I1, rx, q1⟩ => thn (hv.run pins s1 σ H1 _ I1 q1) fun vv s2 ⟨y, H2, I2, ry, q2⟩ => ?_
  obtain ⟨hp, b, ns, rfl, hb, q3⟩ := q2
  cases rx
  obtain ⟨z, hd, ys, rel, dd⟩ := dt_of I2.hok hp
  cases rel
  have kb : H2 b = some (.tup ((ik ns).map kV)) := by rw [ik_V]; exact hb
  refine ⟨b, ik ns, rfl, key_of I2.hok kb, dd, fun h' tk d1 sb => ?_⟩
  obtain ⟨ob, es, ep, h1, h2, h3, h4, _, h6⟩ := d1
  refine ⟨.ref s.heap.objs.size, _, d_write I2 (by rw [hp]; exact True.intro) sb ⟨ob, h1⟩ (ob := .dT [(ik ns, y)]) ?_, rfl, q3⟩
  refine ⟨by show 1 ≤ sizeLine; decide, hd, [(ik ns, b, vv)], .cons ⟨rfl, ?_, ry⟩ .nil, ob, es, ep, h1, h2, h3, h4, h6⟩
  rw [upd_ne (ne_of kb hp (fun z => nomatch z))]
  exact kb
end LW
namespace LW
open PySem PySem.Spec PyProof.Rows L2 RZ
/-! ### dicts whose keys are pairs (number, tuple of numbers) -/
/-- natural numbers as the program's -/
def iz (ns : List Nat) : List Int := ns.map fun (n : Nat) => (n : Int)
def vz (ns : List Nat) : List V := ns.map fun (n : Nat) => V.int (n : Int)
theorem iz_V (ns : List Nat) : (iz ns).map V.int = vz ns := by
  unfold iz vz
  rw [List.map_map]
  rfl
theorem iz_inj {ns ms : List Nat} (h : iz ns = iz ms) : ns = ms := List.map_inj_right (fun a b e => by exact_mod_cast e) |>.mp h
theorem vz_inj {ns ms : List Nat} (h : vz ns = vz ms) : ns = ms := List.map_inj_right (fun a b e => by injection e with e; exact_mod_cast e) |>.mp h
def nk (k : Nat × List Nat) : NestedKey := .tup [.num (k.1 : Int), numKey (iz k.2)]
theorem nk_inj {a b : Nat × List Nat} (h : nk a = nk b) : a = b := by
  unfold nk numKey at h
  injection h with h
  injection h with h1 h2
  injection h1 with h1
  injection h2 with h2 _
  injection h2 with h2
  have e1 : a.1 = b.1 := by exact_mod_cast h1
  exact Prod.ext e1 (iz_inj (num_inj h2))
/-- at b the pair k stands -/
def PairT (H : Hp) (b : Addr) (k : Nat × List Nat) : Prop := ∃ c, H b = some (.tup [.int (k.1 : Int), .ref c]) ∧ H c = some (.tup (vz k.2))
/-- the raw dict at d -/
def ndO (P : Program) (w : World) (d : Addr) (xs : List (NestedKey × Addr × Value)) : HO := .ext fun h =>
  ∃ o es ep, h.get? d = some o ∧ o.ExactDict ∧ o.data = .dict es ep ∧ es.toList = xs.map (entryOfKey (nestedKind P w)) ∧ (xs.map (·.1)).Nodup
def NRel (H : Hp) : List (Nat × List Nat) → List (NestedKey × Addr × Value) → Prop := Paired fun k x => x.1 = nk k ∧ PairT H x.2.1 k
/-- a dict with these keys stands at d -/
def NDict (P : Program) (w : World) (H : Hp) (d : Addr) (kn : List (Nat × List Nat)) : Prop :=
  (d == sysModules) = false ∧ kn.length ≤ sizeLine ∧ ∃ xs, H d = some (ndO P w d xs) ∧ NRel H kn xs
theorem PairT.keeps {H H' : Hp} {b : Addr} {k : Nat × List Nat} (p : PairT H b k) (t : ∀ a xs, H a = some (.tup xs) → H' a = some (.tup xs)) : PairT H' b k :=
  let ⟨c, h1, h2⟩ := p
  ⟨c, t _ _ h1, t _ _ h2⟩
theorem NRel.keeps {H H' : Hp} {kn : List (Nat × List Nat)} {xs : List (NestedKey × Addr × Value)} (r : NRel H kn xs) (t : ∀ a ys, H a = some (.tup ys) → H' a = some (.tup ys)) : NRel H' kn xs :=
  Paired.mapP r fun _ _ z => ⟨z.1, z.2.keeps t⟩
theorem NRel.keys {H : Hp} {kn : List (Nat × List Nat)} {xs : List (NestedKey × Addr × Value)} (r : NRel H kn xs) : xs.map (·.1) = kn.map nk := by
  induction r with
  | nil => rfl
  | cons h _ ih => rw [List.map_cons, List.map_cons, ih, h.1]
theorem NRel.is {P : Program} {w : World} {H : Hp} {h : Heap} (ok : HOk P w H h) {kn : List (Nat × List Nat)} {xs : List (NestedKey × Addr × Value)} (r : NRel H kn xs) : ∀ x ∈ xs, ∃ k, x.1 = nk k ∧ PairT H x.2.1 k := by
  induction r with
  | nil => intro x hx; cases hx
  | @cons k x ks xs h _ ih =>
    intro y hy
    rcases List.mem_cons.mp hy with e | hy
    · rw [e]
      exact ⟨k, h.1, h.2⟩
    · exact ih y hy
theorem pair_is {P : Program} {w : World} {H : Hp} {h : Heap} (ok : HOk P w H h) {b : Addr} {k : Nat × List Nat} (p : PairT H b k) : (nestedKind P w).is h (nk k) b := by
  obtain ⟨c, h1, h2⟩ := p
  obtain ⟨_, us, r1, o1, g1, c1, n1, d1⟩ := ok b _ h1
  obtain ⟨_, us2, r2, o2, g2, c2, n2, d2⟩ := ok c _ h2
  obtain ⟨u, v, rfl, ru, rv⟩ := vals2 r1
  obtain ⟨t, rfl⟩ := ru
  cases rv
  rw [← iz_V] at r2
  refine ⟨.tup g1 c1 d1 ?_, ?_⟩
  · exact .cons (.int _ _) (.cons (.tup g2 c2 d2 (by simpa using nest_ints r2)) .nil)
  · show (NestedKey.tup [.num (k.1 : Int), numKey (iz k.2)]).depth ≤ 8
    unfold numKey
    simp [NestedKey.depth, NestedKey.depthAll, depth_nums]
theorem NDict.of {P : Program} {w : World} {H : Hp} {h : Heap} {d : Addr} {xs : List (NestedKey × Addr × Value)} {kn : List (Nat × List Nat)} (ok : HOk P w H h) (hd : H d = some (ndO P w d xs)) (r : NRel H kn xs) : h.DictOfH (nestedKind P w) d xs := by
  obtain ⟨⟨o, es, ep, h1, h2, h3, h4, h5⟩, _⟩ := ok d _ hd
  refine ⟨o, es, ep, h1, h2, h3, h4, fun x hx => ?_, h5⟩
  obtain ⟨k, e, p⟩ := r.is ok x hx
  rw [e]
  exact pair_is ok p
theorem ndO_ok {P : Program} {w : World} {H : Hp} {h : Heap} {d : Addr} {xs : List (NestedKey × Addr × Value)} (dd : h.DictOfH (nestedKind P w) d xs) : ObjOk P w H h d (ndO P w d xs) := by
  obtain ⟨o, es, ep, h1, h2, h3, h4, _, h5⟩ := dd
  refine ⟨⟨o, es, ep, h1, h2, h3, h4, h5⟩, ⟨o, h1⟩, fun g g' q k => ?_⟩
  obtain ⟨o', es', ep', q1, q2⟩ := q
  exact ⟨o', es', ep', k _ q1, q2⟩
/-- is the key there -/
theorem at_nk {H : Hp} {kn : List (Nat × List Nat)} {xs : List (NestedKey × Addr × Value)} (r : NRel H kn xs) (k : Nat × List Nat) : (atKey xs (nk k)).isSome = decide (k ∈ kn) := by
  induction r with
  | nil => simp [atKey]
  | @cons a x as xs h _ ih =>
    by_cases e : a = k
    · subst e
      have : decide (a ∈ a :: as) = true := by simp
      rw [this]
      unfold atKey
      rw [List.find?_cons, h.1]
      simp
    · have e1 : ¬ x.1 = nk k := fun q => e (nk_inj (h.1.symm.trans q))
      unfold atKey
      rw [List.find?_cons, decide_eq_false e1]
      unfold atKey at ih
      rw [show decide (k ∈ a :: as) = decide (k ∈ as) by simp [Ne.symm e]]
      exact ih
def tNNotIn (P : Program) (w : World) (ty td : TE) : TE := fun σ H Q => ty σ H fun y H1 => td σ H1 fun x H2 => ∃ a b kn k, x = .ref a ∧ y = .ref b ∧ NDict P w H2 a kn ∧ PairT H2 b k ∧ Q (.bl (!decide (k ∈ kn))) H2
def sNPut (P : Program) (w : World) (td ty tv : TE) : TS := fun D σ H => tv σ H fun v H1 => td σ H1 fun x H2 => ty σ H2 fun y H3 => ∃ a b kn k, x = .ref a ∧ y = .ref b ∧ NDict P w H3 a kn ∧ PairT H3 b k ∧ ¬ k ∈ kn ∧ kn.length < sizeLine ∧
  ∀ ob, Mut (H3 a) → NDict P w (upd H3 a ob) a (kn ++ [k]) → D.nx σ (upd H3 a ob)
def tNDisp (P : Program) (w : World) (tk tv : TE) : TE := fun σ H Q => ∀ p, H p = none → tk σ (upd H p (.dT [])) fun x H1 => tv σ H1 fun y H2 => H2 p = some (.dT []) ∧ ∃ b k, x = .ref b ∧ PairT H2 b k ∧
  ∀ ob, NDict P w (upd H2 p ob) p [k] → Q (.ref p) (upd H2 p ob)
section
variable {X : Cx} {o i value k v : Expr} {pos pos' : Pos} {td ty tv tk : TE}
theorem pc_nnotin (hu : X.A.units + 9 < cLine) (hi : PE X i ty) (ho : PE X o td) : PC X .NotIn i o (tNNotIn X.prog X.w ty td) := by
  refine ⟨fun pins s σ H Q I h => ?_⟩
  refine thn (hi.run pins s σ H _ I h) fun iv s1 ⟨y, H1, I1, ry, q1⟩ => thn (ho.run pins s1 σ H1 _ I1 q1) fun u s2 ⟨x, H2, I2, rx, a, b, kn, k, ex, ey, nd, p, q2⟩ => ?_
  subst ex ey
  cases rx
  cases ry
  obtain ⟨hs, hz, xs, ha, r⟩ := nd
  refine notIn_keyed (knd := nestedKind X.prog X.w) (show X.A.in1.units + 8 < cLine from by show X.A.units + 1 + 8 < cLine; omega) (pair_is I2.hok p) hs ⟨xs, NDict.of I2.hok ha r, rfl⟩ ?_
  rw [valueAt_pairsH, Option.isSome_map, at_nk r]
  exact ⟨.bl (!decide (k ∈ kn)), H2, I2.tok _, rfl, q2⟩
theorem ps_nput (hu : X.A.units + 9 < cLine) (ho : PE X o td) (hi : PE X i ty) (hv : PE X value tv) (hs : swapsWith value (some (.Subscript o i pos')) pos.line X.env = pure false) :
    PS X (.Assign [.Subscript o i pos'] value pos) (sNPut X.prog X.w td ty tv) := by
  refine ⟨fun pins s σ H D I h => ?_⟩
  refine wpAny_Assign_Subscript (thn (hv.run pins s σ H _ I h) fun r s1 ⟨v, H1, I1, rv, q1⟩ => thn (ho.run pins s1 σ H1 _ I1 q1) fun u s2 ⟨x, H2, I2, rx, q2⟩ => thn (hi.run pins s2 σ H2 _ I2 q2) fun iv s3 ⟨y, H3, I3, ry, a, b, kn, k, ex, ey, nd, p, hn, hl, q3⟩ => ?_) hs
  subst ex ey
  cases rx
  cases ry
  obtain ⟨hsys, hz, xs, ha, rel⟩ := nd
  have hlen : kn.length = xs.length := Paired.length rel
  have no : atKey xs (nk k) = none := by
    have z := at_nk rel k
    rw [decide_eq_false hn] at z
    cases e : atKey xs (nk k) with
    | none => rfl
    | some q => rw [e] at z; cases z
  refine wpAny_setItem_heap (hsz := by omega) (knd := nestedKind X.prog X.w) (show X.A.in1.units + 8 < cLine from by show X.A.units + 1 + 8 < cLine; omega) (pair_is I3.hok p) (NDict.of I3.hok ha rel) fun h' dd' sb => ?_
  rw [storedH_new no] at dd'
  have mu : Mut (H3 a) := by rw [ha]; exact True.intro
  have ht : ∀ c ys, H3 c = some (.tup ys) → (upd H3 a (ndO X.prog X.w a (xs ++ [(nk k, b, r)]))) c = some (.tup ys) := fun c ys e => by
    rw [upd_ne (ne_of e ha (fun z => nomatch z))]
    exact e
  have ex : ∃ q, h'.get? a = some q := by obtain ⟨q, _, _, hq, _⟩ := dd'; exact ⟨q, hq⟩
  have rel' : NRel (upd H3 a (ndO X.prog X.w a (xs ++ [(nk k, b, r)]))) (kn ++ [k]) (xs ++ [(nk k, b, r)]) := by
    have one : NRel (upd H3 a (ndO X.prog X.w a (xs ++ [(nk k, b, r)]))) [k] [(nk k, b, r)] := .cons ⟨rfl, p.keeps ht⟩ .nil
    have go : ∀ {l1 : List (Nat × List Nat)} {l2 : List (NestedKey × Addr × Value)}, NRel (upd H3 a (ndO X.prog X.w a (xs ++ [(nk k, b, r)]))) l1 l2 → NRel (upd H3 a (ndO X.prog X.w a (xs ++ [(nk k, b, r)]))) (l1 ++ [k]) (l2 ++ [(nk k, b, r)]) := by
      intro l1 l2 z
      induction z with
      | nil => exact one
      | cons h _ ih => exact .cons h ih
    exact go (rel.keeps ht)
  exact ⟨σ, _, d_write I3 mu sb ex (ndO_ok dd'), q3 _ mu ⟨hsys, by rw [List.length_append]; exact hl, _, upd_same, rel'⟩⟩
theorem pe_ndisp (hu : X.A.units + 9 < cLine) (hk : PE X k tk) (hv : PE X v tv) : PE X (.Dict [some k] [v] pos) (tNDisp X.prog X.w tk tv) := by
  refine ⟨fun pins s σ H Q I q => ?_⟩
  have hn := I.hok.fresh (Nat.le_refl s.heap.objs.size)
  have I0 := I.laid (a := s.heap.objs.size) (o := .dT []) (h' := s.heap.push { cls := .type "dict", data := .dict #[] }) (t' := s.toks) (fun _ _ e => Heap.get?_push_of_some _ e) (Nat.le_refl _) (dt_empty s.heap I.big)
  refine disp_one (knd := nestedKind X.prog X.w) (show X.A.units + 8 < cLine from Nat.lt_of_succ_lt hu) ?_
  refine thn (hk.run pins _ σ _ _ I0 (q _ hn)) fun kv s1 ⟨x, H1, I1, rx, q1⟩ => thn (hv.run pins s1 σ H1 _ I1 q1) fun vv s2 ⟨y, H2, I2, ry, q2⟩ => ?_
  obtain ⟨hp, b, c, rfl, p, q3⟩ := q2
  cases rx
  obtain ⟨z, hd, ys, rel, dd⟩ := dt_of I2.hok hp
  cases rel
  obtain ⟨ob, es, ep, h1, h2, h3, h4, _, _⟩ := dd
  refine ⟨b, nk c, rfl, pair_is I2.hok p, ⟨ob, es, ep, h1, h2, h3, h4, (fun _ z => nomatch z), List.nodup_nil⟩, fun h' tk d1 sb => ?_⟩
  have ex : ∃ q, h'.get? s.heap.objs.size = some q := by obtain ⟨q, _, _, hq, _⟩ := d1; exact ⟨q, hq⟩
  refine ⟨.ref s.heap.objs.size, _, d_write I2 (by rw [hp]; exact True.intro) sb ex (ndO_ok d1), rfl, q3 _ ⟨hd, by show 1 ≤ sizeLine; decide, _, upd_same, .cons ⟨rfl, p.keeps fun a ys e => ?_⟩ .nil⟩⟩
  rw [upd_ne (ne_of e hp (fun z => nomatch z))]
  exact e
end
end LW
namespace LW
open PySem PySem.Spec PyProof.Rows L2 RZ
/-! ### {k: v for target in iter}, the keys tuples of numbers -/
theorem d_setT {X : Cx} {pins : List (Addr × Obj)} {σ : L2.St} {H : Hp} {s : Shared} {E : Value → Shared → Prop} {D b : Addr} {kvs : List (List Key × V)} {k : List Key} {v : V} {r : Value} {Q : Unit → Shared → Prop} (hu : X.A.units < cLine) (I : Inv X pins σ H s)
    (hD : H D = some (.dT kvs)) (hz : kvs.length < sizeLine) (hb : H b = some (.tup (k.map kV))) (rv : RelV v r) (h : ∀ s', Inv X pins σ (upd H D (.dT (putK kvs k v))) s' → Q () s') : wpAny (model X.prog X.w) X.A (dictSet D (.ref b) r) Q E s := by
  obtain ⟨z, hd, xs, rel, dd⟩ := dt_of I.hok hD
  have sz : (putK kvs k v).length ≤ sizeLine := Nat.le_trans (length_putK kvs k v) hz
  refine wpAny_dictSet_heap (hsz := by rw [← Paired.length rel]; exact z) (knd := tupleKind (mixKind X.prog X.w)) hu (key_of I.hok hb) dd fun h1 d1 sb => h _ ?_
  obtain ⟨ob, es, ep, g1, g2, g3, g4, _, g6⟩ := d1
  refine d_write I (by rw [hD]; exact True.intro) sb ⟨ob, g1⟩ ⟨sz, hd, _, (rel.put k hb rv).keeps fun c ys e => ?_, ob, es, ep, g1, g2, g3, g4, g6⟩
  rw [upd_ne (ne_of e hD (fun z => nomatch z))]
  exact e
/-- D the new dict, W by the turn and a measure -/
def tDcT (wi : TI) (g : TG) (tk tv : TE) (vs : List Nat) : TE := fun σ H Q => wi σ H fun J H1 => ∀ D, H1 D = none → ∃ W : Nat → Nat → Hp → Prop, (∃ m, W 0 m (upd H1 D (.dT []))) ∧ ∀ i m H, W i m H →
  (J.stop i H ∧ Q (.ref D) H) ∨ (J.go i H ∧ ∃ Nx : Hp → Prop, (∀ H', Nx H' → ∃ m', m' < m ∧ W (i + 1) m' H') ∧ ∀ x H', J.yld i H x H' → g x (wipe σ vs) H' fun σ2 H2 => wipe σ2 vs = wipe σ vs ∧
    tk σ2 H2 fun y H4 => tv σ2 H4 fun z H5 => ∃ (b : Addr) (kvs : List (List Key × V)) (k : List Key), y = .ref b ∧ H5 b = some (.tup (k.map kV)) ∧ H5 D = some (.dT kvs) ∧ kvs.length < sizeLine ∧ Nx (upd H5 D (.dT (putK kvs k z))))
abbrev BlkC (X : Cx) (scope : Scope) (s : Shared) (H : Hp) (C : Addr) (cl : List (Str × Addr)) (fp : List Addr) : Cx := X.blk s H scope (compEnvC scope cl C X.env) fp
theorem pe_dcT {X : Cx} {kx vx tg iter : Expr} {scope : Scope} {own : List (Str × Nat)} {pos : Pos} {wi : TI} {g : TG} {tk tv : TE} (hu : X.A.units < cLine) (hc : X.calm = true) (hN : X.N.Nodup) (hi : PI X tg iter wi) (ok : BlkOk X.N X.env.scope scope own)
    (hg : ∀ s H C cl fp, PG (BlkC X scope s H C cl fp) tg g) (hk : ∀ s H C cl fp, PE (BlkC X scope s H C cl fp) kx tk) (he : ∀ s H C cl fp, PE (BlkC X scope s H C cl fp) vx tv)
    (hs : ∀ x, foldedSetIterable iter X.env x = pure x := by intro _; rfl) : PE X (.DictComp kx vx [⟨tg, iter, [], 0⟩] scope pos) (tDcT wi g tk tv (own.map (·.2))) := by
  refine ⟨fun pins s σ H Q I h => ?_⟩
  rw [arm_eval_DictComp]
  have free : ∀ y ∈ scope.names, y.2 = .free → ∃ c, X.env.cells.lookup y.1 = some c := fun y hy e => (ok.free y hy e).elim (fun k => I.ok.has _ (.inl k)) fun k => I.ok.has _ (.inr k)
  refine wpAny_comprehension_free (use := none) rfl hs (closure_ok free) ok.kind (fun y hy e => by rw [ok.uniq y hy, e]) (thn (hi.run pins s σ H _ I h) fun xv s1 hx => thn hx fun itv s2 h2 => ?_)
  obtain ⟨it, fp, tn, J, H2, rfl, I2, T, st2, f2, q⟩ := h2
  refine wpAny_newObj_type (newEnv_comp ?_)
  generalize hD : s2.heap.objs.size = D
  have newD : H2 D = none := I2.hok.fresh (Nat.le_of_eq hD)
  obtain ⟨W, ⟨m0, w0⟩, turn⟩ := q D newD
  -- the dict is laid
  generalize e3 : ({ s2 with heap := s2.heap.push { cls := .type "dict", data := .dict #[] } } : Shared) = s3
  have I3 : Inv X pins σ (upd H2 D (.dT [])) s3 := by
    subst e3
    exact I2.laid (t' := s2.toks) (fun b o e => Heap.get?_push_of_some _ e) (Nat.le_of_eq hD) (hD ▸ dt_empty s2.heap I2.big)
  have hp3 : s3.heap = s2.heap.push { cls := .type "dict", data := .dict #[] } := by subst e3; rfl
  have f3 : ∀ b ∈ fp, FpOk X pins (upd H2 D (.dT [])) b ∧ b < s3.heap.objs.size := fun b hb => by
    obtain ⟨o, eo, _⟩ := T.obj _ _ st2 b hb
    have lt2 := Heap.lt_size eo
    refine ⟨⟨?_, (f2 b hb).2⟩, by rw [hp3, Heap.size_push]; exact Nat.lt_succ_of_lt lt2⟩
    rw [upd_ne (hD ▸ Nat.ne_of_lt lt2)]
    exact (f2 b hb).1
  have st3 : tn 0 s3.heap := T.keep _ _ _ st2 fun b _ o e => hp3 ▸ Heap.get?_push_of_some _ e
  -- the block
  have I4 := block_start I3 ok hN f3
  have pg := hg s3 (upd H2 D (.dT [])) s3.heap.objs.size (cellsFrom (s3.heap.objs.size + 1) scope.names (cloFrom X.env.cells scope.names [])) fp
  have pk := hk s3 (upd H2 D (.dT [])) s3.heap.objs.size (cellsFrom (s3.heap.objs.size + 1) scope.names (cloFrom X.env.cells scope.names [])) fp
  have pv := he s3 (upd H2 D (.dT [])) s3.heap.objs.size (cellsFrom (s3.heap.objs.size + 1) scope.names (cloFrom X.env.cells scope.names [])) fp
  dsimp only [BlkC] at pg pk pv
  have post : ∀ s' m H', Inv X pins σ H' s' → Q (.ref D) H' → s'.heap.Ns s3.heap.objs.size m → FpOk X pins H' s3.heap.objs.size → compPost (model X.prog X.w) X.A X.xe none (EP X pins σ Q) (.ref D) s3.heap.objs.size (.ok .next) s' :=
    fun s' m H' I' qq nm ⟨f0, f1, f2, f3, f4, f5⟩ => ⟨m, nm, fun h'' sb => ⟨.ref D, H', I'.turned (t' := s'.toks) (fun b o hb e => (sb.2 b hb).trans e) f0 f1 f3 f4 f5, rfl, qq⟩⟩
  show codeAny _ _ (.compStart (.DictComp kx vx [⟨tg, iter, [], 0⟩] scope pos) 0 (.ref it) (.ref D) (compEnvC scope (cellsFrom (s3.heap.objs.size + 1) scope.names (cloFrom X.env.cells scope.names [])) s3.heap.objs.size X.env))
    (compPost (model X.prog X.w) X.A X.xe none (EP X pins σ Q) (.ref D) s3.heap.objs.size) { s3 with heap := pushCells (s3.heap.push { cls := .type "dict", data := .dict #[] }) scope.names }
  have noH : ∀ b ∈ fp, (upd H2 D (.dT [])) b = none := fun b hb => (f3 b hb).1.1
  generalize hce : compEnvC scope (cellsFrom (s3.heap.objs.size + 1) scope.names (cloFrom X.env.cells scope.names [])) s3.heap.objs.size X.env = ce at I4 pg pk pv ⊢
  have ceL : ce.locals = s3.heap.objs.size := hce ▸ rfl
  generalize hH3 : upd H2 D (.dT []) = H3 at I3 I4 pg pk pv w0 noH f3
  generalize e4 : ({ s3 with heap := pushCells (s3.heap.push { cls := .type "dict", data := .dict #[] }) scope.names } : Shared) = s4 at I4 ⊢
  have st4 : tn 0 s4.heap := T.keep _ _ _ st3 fun b _ o e => e4 ▸ pushCells_keeps _ _ _ _ (Heap.get?_push_of_some _ e)
  have fpB : ∀ {σ' : L2.St} {H' : Hp} {s' : Shared}, Inv (X.blk s3 H3 scope ce fp) [] σ' H' s' → (∀ b ∈ fp, H' b = none) → ∀ b ∈ fp, FpOk (X.blk s3 H3 scope ce fp) [] H' b := fun {σ' H' s'} I' hn b hb =>
    ⟨hn b hb, (I'.ok.exf b hb).1, I'.ok.exfs b hb, .inl hb, (I'.ok.exf b hb).2, fun p hp => (by simp at hp)⟩
  have loop : codeAny (model X.prog X.w) X.A (.compLoop (.DictComp kx vx [⟨tg, iter, [], 0⟩] scope pos) 0 (.ref it) (.ref D) ce) (compPost (model X.prog X.w) X.A X.xe none (EP X pins σ Q) (.ref D) s3.heap.objs.size) s4 := by
    refine compLoop_anyD (fun n s' => ∃ i H', Inv (X.blk s3 H3 scope ce fp) [] (wipe σ (own.map (·.2))) H' s' ∧ tn i s'.heap ∧ (∀ b ∈ fp, H' b = none) ∧ W i n H') ?_ m0 ⟨0, H3, I4, st4, noH, w0⟩
    rintro n s5 ⟨i, H5, I5, st5, n5, w5⟩
    rcases turn i n H5 w5 with ⟨stop, qq⟩ | ⟨go, Nx, hNx, step⟩
    · refine thnF (T.done (X.blk s3 H3 scope ce fp) rfl rfl rfl hc i [] s5 _ H5 (fun _ _ => False) I5 (fpB I5 n5) st5 stop) fun r s6 ⟨hr, I6⟩ => ?_
      subst hr
      have I7 : Inv X pins σ H5 s6 := I3.call' (ch := fp) I6.os I6.base I6.hok I6.bare fun b hb => let ⟨_, g1, _, g3, g4, g5⟩ := (f3 b hb).1; ⟨g3, g1, g4, g5⟩
      have none5 : H5 s3.heap.objs.size = none := ceL ▸ (show H5 ce.locals = none from I6.free)
      obtain ⟨m, nm, _⟩ := I6.loc
      exact post s6 m H5 I7 qq (ceL ▸ (show s6.heap.Ns ce.locals m from nm)) (I3.fpOk (Nat.le_refl _) none5)
    · refine thnF (T.item (X.blk s3 H3 scope ce fp) rfl rfl rfl hc i [] s5 _ H5 (fun _ _ => False) I5 (fpB I5 n5) st5 go) fun r s6 ⟨u, hr, h6⟩ => ?_
      subst hr
      refine thnF h6 fun _ s7 ⟨x, H7, I7, r7, y7, st7, n7⟩ => ?_
      have P7 := I7.pinned (fpB I7 n7) (T.obj _ _ st7)
      refine thnF (pg.run _ s7 _ H7 x u _ P7 r7 (step x H7 y7)) fun _ s8 ⟨σ8, H8, I8, hw8, q8⟩ => ?_
      have again : ∀ {s' : Shared} {H' : Hp}, Inv (X.blk s3 H3 scope ce fp) ([] ++ pinsAt fp s7.heap) σ8 H' s' → Nx H' → ∃ m, m < n ∧ ∃ i H', Inv (X.blk s3 H3 scope ce fp) [] (wipe σ (own.map (·.2))) H' s' ∧ tn i s'.heap ∧ (∀ b ∈ fp, H' b = none) ∧ W i m H' := fun {s' H'} I' nx => by
        obtain ⟨m', less, w'⟩ := hNx H' nx
        have pinned : ∀ b ∈ fp, ∀ o, s7.heap.get? b = some o → s'.heap.get? b = some o ∧ H' b = none := fun b hb o e =>
          have z := I'.pin (b, o) (List.mem_append_right _ (List.mem_append_right _ (mem_pinsAt hb e)))
          ⟨z.1, z.2.1⟩
        refine ⟨m', less, i + 1, H', (I'.unpinned (pins := [])).weak (by rw [← hw8, wipe_length]) (fun j v e => (wipe_some (hw8 ▸ e)).1), T.keep _ _ _ st7 fun b hb o e => (pinned b hb o e).1, fun b hb => ?_, w'⟩
        obtain ⟨o, eo, _⟩ := T.obj _ _ st7 b hb
        exact (pinned b hb o eo).2
      show wpAny _ _ (pure true) _ _ s8
      refine wpAny_pure ?_
      rw [if_pos rfl]
      refine thnF (pk.run _ s8 σ8 H8 _ I8 q8) fun z s10 ⟨yk, H10, I10, r10, q10⟩ => thnF (pv.run _ s10 σ8 H10 _ I10 q10) fun z2 s11 ⟨yv, H11, I11, r11, b, kvs, k, ek, kb, hD11, hz11, nx⟩ => ?_
      subst ek
      cases r10
      exact d_setT (X := X.blk s3 H3 scope ce fp) hu I11 hD11 hz11 kb r11 fun s12 I12 => again I12 nx
  exact codeAny_compStart_dict loop (T.self X.A 0 _ _ _ st4 loop)
end LW
namespace LW
open PySem PySem.Spec PyProof.Rows L2 RZ
abbrev FT := L2.St
/-! ### what a step may change: the objects of ch (tuples never) -/
structure Kp (ch : List Addr) (H H' : Hp) : Prop where
  keep : ∀ a o, H a = some o → (a ∉ ch ∨ ∃ xs, o = .tup xs) → H' a = some o
  free : ∀ a, H' a = none → H a = none
section
variable {ch ch' : List Addr} {H H1 H2 : Hp} {a p : Addr} {o : HO}
theorem Kp.refl : Kp ch H H := ⟨fun _ _ h _ => h, fun _ h => h⟩
theorem Kp.trans (x : Kp ch H H1) (y : Kp ch H1 H2) : Kp ch H H2 := ⟨fun a o h n => y.keep a o (x.keep a o h n) n, fun a h => x.free a (y.free a h)⟩
theorem Kp.mono (x : Kp ch H H1) (h : ∀ c ∈ ch, c ∈ ch') : Kp ch' H H1 := ⟨fun a o e n => x.keep a o e (n.imp_left fun m z => m (h a z)), x.free⟩
theorem Kp.any (x : Kp [] H H1) : Kp ch H H1 := x.mono fun _ z => nomatch z
theorem Kp.tup (x : Kp ch H H1) {xs : List V} (h : H a = some (.tup xs)) : H1 a = some (.tup xs) := x.keep a _ h (.inr ⟨xs, rfl⟩)
theorem Kp.at (x : Kp ch H H1) (h : H a = some o) (n : a ∉ ch) : H1 a = some o := x.keep a o h (.inl n)
theorem Kp.get (x : Kp [] H H1) (h : H a = some o) : H1 a = some o := x.keep a o h (.inl (fun z => nomatch z))
theorem Kp.new (h : H p = none) : Kp ch H (upd H p o) := ⟨fun a u e _ => by rw [upd_ne (ne_of_none e h)]; exact e, fun a e => by
  by_cases q : a = p
  · rw [q, upd_same] at e; cases e
  · rw [upd_ne q] at e; exact e⟩
/-- an object that H does not know changes -/
theorem Kp.mut (x : Kp ch H H1) (h : H p = none) : Kp ch H (upd H1 p o) := ⟨fun a u e n => by rw [upd_ne (ne_of_none e h)]; exact x.keep a u e n, fun a e => by
  by_cases q : a = p
  · rw [q, upd_same] at e; cases e
  · rw [upd_ne q] at e; exact x.free a e⟩
/-- an object of ch changes -/
theorem Kp.put (x : Kp ch H H1) (h : p ∈ ch) (n : ∀ xs, H p ≠ some (.tup xs)) : Kp ch H (upd H1 p o) := ⟨fun a u e k => by
  by_cases q : a = p
  · subst q
    rcases k with k | ⟨xs, k⟩
    · exact absurd h k
    · rw [k] at e; exact absurd e (n xs)
  · rw [upd_ne q]; exact x.keep a u e k, fun a e => by
  by_cases q : a = p
  · rw [q, upd_same] at e; cases e
  · rw [upd_ne q] at e; exact x.free a e⟩
theorem Kp.new' (x : Kp ch H H1) (h : H1 p = none) : Kp ch H (upd H1 p o) := x.trans (Kp.new h)
theorem Kp.there (x : Kp ch H H1) (h : H a = some o) : ∃ o', H1 a = some o' := by
  cases e : H1 a with
  | none => rw [x.free a e] at h; cases h
  | some o' => exact ⟨o', rfl⟩
theorem Kp.ne (x : Kp ch H H1) (h : H a = some o) (n : H1 p = none) : a ≠ p := fun e => by
  rw [← e] at n
  rw [x.free a n] at h
  cases h
end
/-- tuples stay: what most facts of data want -/
def Tk (H H' : Hp) : Prop := ∀ a xs, H a = some (.tup xs) → H' a = some (.tup xs)
theorem Kp.tk {ch : List Addr} {H H' : Hp} (x : Kp ch H H') : Tk H H' := fun _ _ h => x.tup h
/-! ### data -/
def T1 (H : Hp) (v : V) (ns : List Nat) : Prop := ∃ a, v = .ref a ∧ H a = some (.tup (vz ns))
theorem T1.tk {H H' : Hp} {v : V} {ns : List Nat} (t : Tk H H') (h : T1 H v ns) : T1 H' v ns := let ⟨a, e, h⟩ := h; ⟨a, e, t _ _ h⟩
/-- a tuple of things -/
def TO {α : Type} (R : Hp → V → α → Prop) (H : Hp) (v : V) (l : List α) : Prop := ∃ (a : Addr) (vs : List V), v = .ref a ∧ H a = some (.tup vs) ∧ vs.length = l.length ∧ ∀ (i : Nat) x y, vs[i]? = some x → l[i]? = some y → R H x y
theorem TO.tk {α : Type} {R : Hp → V → α → Prop} {H H' : Hp} (hR : ∀ v x, R H v x → R H' v x) (t : Tk H H') {v : V} {l : List α} (h : TO R H v l) : TO R H' v l :=
  let ⟨a, vs, e, h, hl, hi⟩ := h
  ⟨a, vs, e, t _ _ h, hl, fun i x y h1 h2 => hR _ _ (hi i x y h1 h2)⟩
abbrev T2 := TO T1
theorem T2.tk {H H' : Hp} {v : V} {l : List (List Nat)} (t : Tk H H') (h : T2 H v l) : T2 H' v l := TO.tk (fun _ _ => T1.tk t) t h
theorem vz_len (ns : List Nat) : (vz ns).length = ns.length := by unfold vz; rw [List.length_map]
theorem vz_get (ns : List Nat) (i : Nat) : (vz ns)[i]? = (ns[i]?).map fun (n : Nat) => V.int (n : Int) := by unfold vz; rw [List.getElem?_map]
theorem vz_some {ns : List Nat} {i n : Nat} (h : ns[i]? = some n) : (vz ns)[i]? = some (.int (n : Int)) := by rw [vz_get, h]; rfl
theorem vz_of {ns : List Nat} {i : Nat} {v : V} (h : (vz ns)[i]? = some v) : ∃ n, ns[i]? = some n ∧ v = .int (n : Int) := by
  rw [vz_get] at h
  cases e : ns[i]? with
  | none => rw [e] at h; cases h
  | some n => rw [e] at h; exact ⟨n, rfl, (Option.some.inj h).symm⟩
theorem vz_append (a b : List Nat) : vz (a ++ b) = vz a ++ vz b := by unfold vz; rw [List.map_append]
theorem vz_take (ns : List Nat) (k : Nat) : vz (ns.take k) = (vz ns).take k := by unfold vz; rw [List.map_take]
theorem vz_set (ns : List Nat) (i n : Nat) : vz (ns.set i n) = (vz ns).set i (.int (n : Int)) := by unfold vz; rw [List.map_set]
theorem vz_nil : vz [] = [] := rfl
theorem vz_one (n : Nat) : vz [n] = [.int (n : Int)] := rfl
/-- from the items: which numbers they are -/
theorem vz_list : ∀ {vs : List V}, (∀ (i : Nat) (v : V), vs[i]? = some v → ∃ n : Nat, v = .int (n : Int)) → ∃ ns, vs = vz ns
  | [], _ => ⟨[], rfl⟩
  | v :: vs, h => by
    obtain ⟨n, e⟩ := h 0 v rfl
    obtain ⟨ns, e2⟩ := vz_list (vs := vs) fun i x q => h (i + 1) x (by simpa using q)
    exact ⟨n :: ns, by rw [e, e2]; rfl⟩
theorem vz_eq {vs : List V} {ns : List Nat} (hl : vs.length = ns.length) (h : ∀ (i : Nat) (v : V) (n : Nat), vs[i]? = some v → ns[i]? = some n → v = .int (n : Int)) : vs = vz ns := by
  refine List.ext_getElem? fun i => ?_
  rw [vz_get]
  cases e : ns[i]? with
  | none =>
    have q := List.getElem?_eq_none_iff.mp e
    exact List.getElem?_eq_none_iff.mpr (by omega)
  | some n =>
    have q := (List.getElem?_eq_some_iff.mp e).1
    have : i < vs.length := by omega
    rw [List.getElem?_eq_getElem this]
    exact congrArg some (h i _ n (List.getElem?_eq_getElem this) e)
theorem T1.sq {K : PySem.W.Frag} {H : Hp} {a : Addr} {ns : List Nat} (h : H a = some (.tup (vz ns))) : SqT K H a (vz ns) := SqT.of h

/-! ### the callees -/
/-- the global def x keeps the promise sp -/
structure Gf (P : Program) (w : World) (K : PySem.W.Frag) (mg : Str → Option Value) (base : Heap) (x : Str) (ps : List Str) (k : Nat) (sp : Sp) : Prop where
  ex : ∃ f fd, mg x = some (.ref f) ∧ PySem.W.keepIn K (.ref f) = true ∧ Binds K fd ps [] ∧ FnOk P w K mg base CX0 k f fd ps sp
/-- the method m of the class at C -/
structure Gm (P : Program) (w : World) (K : PySem.W.Frag) (mg : Str → Option Value) (base : Heap) (C : Addr) (m : Str) (ps : List Str) (k : Nat) (sp : Sp) : Prop where
  ex : ∃ f fd, Meth K C m f ∧ Binds K fd ps [] ∧ FnOk P w K mg base CX0 k f fd ps sp
/-- C(..) by its __init__ -/
structure Gc (P : Program) (w : World) (K : PySem.W.Frag) (mg : Str → Option Value) (base : Heap) (x : Str) (C : Addr) (ps : List Str) (k : Nat) (sp : Sp) : Prop where
  ex : ∃ f fd, mg x = some (.ref C) ∧ Mk K C f ∧ Binds K fd ps [] ∧ FnOk P w K mg base CX0 k f fd ps sp
section
variable {X : Cx} {x : Str} {ps : List Str} {k : Nat} {sp : Sp} {e : Expr} {es : List Expr} {t : TA} {p pos : Pos} {C : Addr}
theorem pe_g (G : Gf X.prog X.w X.K X.mg X.base x ps k sp) (hr : Room k X.A) (hg : Gl X x) (ha : PA X (e :: es) t) (hdb : (x == ("__debug__" : Str)) = false := by decide) (he : starEach (e :: es) X.env = (false, eval e X.env) :: starEach es X.env := by rfl)
    (hpl : (backTo pos (starEach es X.env)).any (·.1) = false := by rfl) : PE X (.Call (.Name x p) (e :: es) [] pos) (tCall sp [] E0 t) := by
  obtain ⟨f, fd, hm, hk, hb, F⟩ := G.ex
  exact pe_call F hr hg hm hk hb .nil pass0 ha hdb he hpl
theorem pe_c (G : Gc X.prog X.w X.K X.mg X.base x C ps k sp) (hr : Room (k + 1) X.A) (hg : Gl X x) (ha : PA X (e :: es) t) (hdb : (x == ("__debug__" : Str)) = false := by decide) (he : starEach (e :: es) X.env = (false, eval e X.env) :: starEach es X.env := by rfl)
    (hpl : (backTo pos (starEach es X.env)).any (·.1) = false := by rfl) : PE X (.Call (.Name x p) (e :: es) [] pos) (tMake C sp [] E0 t) := by
  obtain ⟨f, fd, hm, M, hb, F⟩ := G.ex
  exact pe_make M F hr hg hm hb .nil pass0 ha hdb he hpl
theorem pe_const {n : Int} (hg : Gl X x) (hm : ∃ u, X.mg x = some (.int n u)) (hd : (x == ("__debug__" : Str)) = false := by decide) : PE X (.Name x pos) (tC (.int n)) :=
  let ⟨_, h⟩ := hm
  pe_glob hg h ⟨_, rfl⟩ hd
end
/-! ### comprehensions: what is known of the items made so far is R -/
section
variable {J : It} {n : Nat} {G : Hp → Prop} {Y : Nat → Hp → V → Hp → Prop}
theorem lc_keep (w : Walk J n G Y) {ch : List Addr} {g : TG} {te : TE} {vs : List Nat} {σ : FT} {H1 : Hp} {Q : VK} (R : Addr → Nat → V → Hp → Prop) (hch : ∀ c ∈ ch, H1 c ≠ none) (hn : n < sizeLine) (hG : ∀ H, Kp ch H1 H → G H)
    (stab : ∀ D i y H H', Kp (D :: ch) H H' → R D i y H → R D i y H')
    (turn : ∀ D i x H H' (Q' : VK), H1 D = none → i < n → Kp ch H1 H → Y i H x H' → (∀ y H2, Kp ch H' H2 → R D i y H2 → Q' y H2) → g x (wipe σ vs) H' fun σ2 H2 => wipe σ2 vs = wipe σ vs ∧ te σ2 H2 Q')
    (yk : ∀ i H x H', Y i H x H' → Kp ch H H')
    (done : ∀ D ys H, H1 D = none → Kp ch H1 H → H D = some (.lst ys) → ys.length = n → (∀ (i : Nat) y, ys[i]? = some y → R D i y H) → Q (.ref D) H) :
    ∀ D, H1 D = none → ∃ W : Nat → Nat → Hp → Prop, (∃ m, W 0 m (upd H1 D (.lst []))) ∧ ∀ i m H, W i m H →
      (J.stop i H ∧ Q (.ref D) H) ∨ (J.go i H ∧ ∃ Nx : Hp → Prop, (∀ H', Nx H' → ∃ m', m' < m ∧ W (i + 1) m' H') ∧ ∀ x H', J.yld i H x H' → g x (wipe σ vs) H' fun σ2 H2 => wipe σ2 vs = wipe σ vs ∧ tYes σ2 H2 fun b H3 =>
        if b = true then te σ2 H3 fun y H4 => ∃ acc, H4 D = some (.lst acc) ∧ acc.length < sizeLine ∧ Nx (upd H4 D (.lst (acc ++ [y]))) else Nx H3) := by
  intro D hD
  have nD : D ∉ ch := fun m => hch D m hD
  refine lc_it w (fun i H => Kp ch H1 H ∧ ∃ ys, H D = some (.lst ys) ∧ ys.length = i ∧ ∀ j y, ys[j]? = some y → R D j y H) ⟨Kp.new hD, [], upd_same, rfl, fun j y e => by simp at e⟩ (fun i H _ h => hG H h.1) ?_ ?_
  · rintro i x H H' hi ⟨k1, ys, hy, hl, hR⟩ hx
    have k2 := yk i H x H' hx
    have base := turn D i x H H' (fun y H4 => ∃ acc, H4 D = some (.lst acc) ∧ acc.length < sizeLine ∧ (Kp ch H1 (upd H4 D (.lst (acc ++ [y]))) ∧ ∃ ys, (upd H4 D (.lst (acc ++ [y]))) D = some (.lst ys) ∧ ys.length = i + 1 ∧ ∀ j z, ys[j]? = some z → R D j z (upd H4 D (.lst (acc ++ [y]))))) hD hi k1 hx ?_
    · exact base
    · intro y H4 k3 hr
      have hy4 := k3.at (k2.at hy nD) nD
      have pu : ∀ {H0 : Hp}, (H0 D = some (.lst ys)) → Kp (D :: ch) H0 (upd H0 D (.lst (ys ++ [y]))) := fun {H0} h0 => Kp.refl.put List.mem_cons_self fun xs e => by rw [h0] at e; cases e
      refine ⟨ys, hy4, by omega, (((k1.trans k2).trans k3).mut hD), ys ++ [y], upd_same, by rw [List.length_append, hl]; rfl, fun j z e => ?_⟩
      by_cases hj : j < ys.length
      · rw [List.getElem?_append_left hj] at e
        refine stab D j z H _ ?_ (hR j z e)
        exact ((k2.trans k3).mono (fun c hc => List.mem_cons_of_mem _ hc)).trans (pu hy4)
      · rw [List.getElem?_append_right (by omega)] at e
        have hj0 : j - ys.length = 0 := by
          have := (List.getElem?_eq_some_iff.mp e).1
          simp at this
          omega
        rw [hj0] at e
        have ez : y = z := by simpa using e
        subst ez
        have ej : j = i := by omega
        subst ej
        exact stab D j y H4 _ (pu hy4) hr
  · rintro H ⟨k, ys, hy, hl, hR⟩
    exact done D ys H hD k hy hl hR
end
end LW
namespace LW
open PySem PySem.Spec PyProof.Rows L2 RZ
def top (i : Nat) : Stmt := PySem.Challenge.pw_latestword_k64_whole_least_rows_that_are.main.body.getD i (.Pass ⟨0, 0, 0, 0⟩)
/-- what the top shows of the built-ins and of its own numbers -/
structure Txt (mg : Str → Option Value) : Prop where
  b_isinstance : mg "isinstance" = none
  b_int : mg "int" = none
  b_bool : mg "bool" = none
  b_tuple : mg "tuple" = none
  b_dict : mg "dict" = none
  b_list : mg "list" = none
  b_len : mg "len" = none
  b_all : mg "all" = none
  b_any : mg "any" = none
  b_range : mg "range" = none
  b_enumerate : mg "enumerate" = none
  b_zip : mg "zip" = none
  b_sorted : mg "sorted" = none
  b_abs : mg "abs" = none
  c_MOST_DESKS : ∃ u, mg "MOST_DESKS" = some (.int 6 u)
  c_MOST_WORKS : ∃ u, mg "MOST_WORKS" = some (.int 10 u)
  c_MOST_STANDINGS : ∃ u, mg "MOST_STANDINGS" = some (.int 12 u)
  c_MOST_TOLD_books : ∃ u, mg "MOST_TOLD_books" = some (.int 9 u)
  c_MOST_NOTES : ∃ u, mg "MOST_NOTES" = some (.int 6 u)
  c_MOST_TUPLES : ∃ u, mg "MOST_TUPLES" = some (.int 200 u)
  c_MOST_TOLD_machines : ∃ u, mg "MOST_TOLD_machines" = some (.int 9 u)
/-- a class of the text: what instances of it want, and isinstance -/
structure ClsF (K : PySem.W.Frag) (mg : Str → Option Value) (x : Str) (C : Addr) : Prop where
  cl : Cls K C
  mg : mg x = some (.ref C)
  ha : PySem.W.findIn K (.ref C) "__class__" = some (some (.builtin "object.__class__"))
  hn : PySem.W.specialIn K (.builtin "object.__class__") "__get__" = some (some (.builtin "getset_descriptor.__get__"))
  ht : PySem.W.takesIn K (.builtin "object.__class__") = some true
  hm : PySem.W.mroIn K C (.type "object") = some true
theorem ClsF.ty {K : PySem.W.Frag} {mg : Str → Option Value} {x : Str} {C : Addr} (T : ClsF K mg x C) {H : Hp} {a dx : Addr} {fs : List (Str × V)} (h : H a = some (.ins C dx fs)) : TyX K H (.ref a) (.ref C) := .base (.ins h T.cl T.ha T.hn T.ht T.hm)
theorem kit_self {K : PySem.W.Frag} {v : Value} : PySem.W.kitOne K v v = some true := by unfold PySem.W.kitOne; rw [if_pos (by simp)]
theorem room2 {A : Around} {k : Nat} (r : Room k A) : A.units + 2 < cLine := by have := r.un; omega
theorem room9 {A : Around} {k : Nat} (r : Room k A) : A.units + 9 < cLine := by have := r.un; omega
theorem room65 {A : Around} {k : Nat} (r : Room k A) : A.units + 65 < cLine := by have := r.un; omega
/-! ### the layer's rules with the written part named, so that they stand in a comprehension's block, too -/
section
variable {X : Cx} {K : PySem.W.Frag} (h : X.K = K)
theorem kix_list (h : X.K = K := by rfl) : IxR X (rIxL K) := h ▸ ix_list
theorem kix_tup (h : X.K = K := by rfl) : IxR X (rIxT K) := h ▸ ix_tup
def kLen (K : PySem.W.Frag) : List V → Hp → VK → Prop := fun xs H Q => ∃ p ys, xs = [.ref p] ∧ (SqL K H p ys ∨ SqT K H p ys) ∧ Q (.int ys.length) H
theorem kcall_len (h : X.K = K := by rfl) : CallR X (.builtin "len") (kLen K) := h ▸ call_len_seq
def kTup (K : PySem.W.Frag) : List V → Hp → VK → Prop := fun xs H Q => ∃ p ys, xs = [.ref p] ∧ ((SqL K H p ys ∧ ∀ l, H l = none → Q (.ref l) (upd H l (.tup ys))) ∨ (SqT K H p ys ∧ Q (.ref p) H))
theorem kcall_tup (h : X.K = K := by rfl) : CallR X (.type "tuple") (kTup K) := h ▸ call_tuple_of
def kLst (K : PySem.W.Frag) : List V → Hp → VK → Prop := fun xs H Q => ∃ p ys, xs = [.ref p] ∧ (SqL K H p ys ∨ SqT K H p ys) ∧ ∀ l, H l = none → Q (.ref l) (upd H l (.lst ys))
theorem kcall_lst (h : X.K = K := by rfl) : CallR X (.type "list") (kLst K) := h ▸ call_list_of
theorem kcr_all (hc : X.calm = true) (h : X.K = K := by rfl) : CallR X (.builtin "all") (rAll K) := h ▸ cr_all hc
theorem kcr_any (hc : X.calm = true) (h : X.K = K := by rfl) : CallR X (.builtin "any") (rAny K) := h ▸ cr_any hc
theorem kcr_sorted (h : X.K = K := by rfl) : CallR X (.builtin "sorted") (rSorted K) := h ▸ cr_sorted
theorem kcall_isi (h : X.K = K := by rfl) : CallR X (.builtin "isinstance") (rIsi K) := h ▸ call_isi
theorem kop_in (h : X.K = K := by rfl) : OpR X (compareOp .In) (rIn K false) := h ▸ op_in_seq
theorem kop_catA (h : X.K = K := by rfl) : OpR X (binaryOp .Add) (rCatA K) := h ▸ op_catA
theorem kop_repA (h : X.K = K := by rfl) : OpR X (binaryOp .Mult) (rRepA K) := h ▸ op_repA
theorem kop_eqD (hu : X.A.units + 64 < cLine) (h : X.K = K := by rfl) : OpR X (compareOp .Eq) (rEqD K) := h ▸ op_eqD hu
theorem kop_neD (hu : X.A.units + 64 < cLine) (h : X.K = K := by rfl) : OpR X (compareOp .NotEq) (rNeD K) := h ▸ op_neD hu
theorem kop_ltN (hu : X.A.units + 2 < cLine) (h : X.K = K := by rfl) : OpR X (compareOp .Lt) (rLtN K) := h ▸ op_ltN hu
theorem kop_notInD (hu : X.A.units + 65 < cLine) (h : X.K = K := by rfl) : OpR X (compareOp .NotIn) (rNotInD K) := h ▸ op_notInD hu
theorem kmt_indexD (hu : X.A.units + 65 < cLine) (h : X.K = K := by rfl) : MtR X "list.index" (rIndexD K) := h ▸ mt_indexD hu
theorem ksl_list (h : X.K = K := by rfl) : SlR X (rSlL K) := h ▸ sl_list
theorem ksl_tup (h : X.K = K := by rfl) : SlR X (rSlA K) := h ▸ sl_tupA
theorem kpi_list {tg l : Expr} {tl : TE} (hl : PE X l tl) (h : X.K = K := by rfl) : PI X tg l (iList K tl) := h ▸ pi_list hl
theorem kpi_tup {tg l : Expr} {tl : TE} (hl : PE X l tl) (h : X.K = K := by rfl) : PI X tg l (iTup K tl) := h ▸ pi_tup hl
theorem kpe_fld {e : Expr} {f : Str} {pos : Pos} {ta : TE} (he : PE X e ta) (hb : attributeBase e f X.env (eval e X.env) = eval e X.env) (h : X.K = K := by rfl) : PE X (.Attribute e f pos) (tFld K ta f) := h ▸ pe_fld he hb
theorem kpe_bm {T : String} {name : Str} {r : V → List V → Hp → VK → Prop} {o e : Expr} {es : List Expr} {to : TE} {t : TA} {apos pos : Pos} (he : PE X (.Call (.Attribute o name apos) (e :: es) [] pos) (tBM X.K T r to t)) (h : X.K = K := by rfl) :
    PE X (.Call (.Attribute o name apos) (e :: es) [] pos) (tBM K T r to t) := h ▸ he
theorem pe_ty {x : Str} (n : String) {pos : Pos} (hg : Gl X x) (hm : X.mg x = none) (hv : bootBuiltins x = some (.type n)) (hn : x ≠ "__name__" := by decide) (hd : (x == ("__debug__" : Str)) = false := by decide) : PE X (.Name x pos) (tC (.ty n)) :=
  pe_bltn hg hm hv rfl hn hd
theorem pe_cls {x : Str} {C : Addr} {pos : Pos} (hg : Gl X x) (hm : X.mg x = some (.ref C)) (hd : (x == ("__debug__" : Str)) = false := by decide) : PE X (.Name x pos) (tC (.ref C)) := pe_glob hg hm rfl hd
theorem kpi_enumT {e : Expr} {ta : TA} {p pos tpos : Pos} {elts : List Expr} {kk : Nat} (hg : Gl X "enumerate") (hm : X.mg "enumerate" = none) (ha : PA X [e] ta) (one : starEach [e] X.env = [(false, eval e X.env)] := by rfl) (h : X.K = K := by rfl) :
    PI X (.Tuple elts kk tpos) (.Call (.Name "enumerate" p) [e] [] pos) (iEnumT K ta) := h ▸ pi_enumT hg hm ha one
theorem kpi_enum {e : Expr} {ta : TA} {p pos tpos : Pos} {elts : List Expr} {kk : Nat} (hg : Gl X "enumerate") (hm : X.mg "enumerate" = none) (ha : PA X [e] ta) (one : starEach [e] X.env = [(false, eval e X.env)] := by rfl) (h : X.K = K := by rfl) :
    PI X (.Tuple elts kk tpos) (.Call (.Name "enumerate" p) [e] [] pos) (iEnum K ta) := h ▸ pi_enum hg hm ha one
theorem kpi_zip {e e2 : Expr} {ta : TA} {p pos tpos : Pos} {elts : List Expr} {kk : Nat} (hg : Gl X "zip") (hm : X.mg "zip" = none) (ha : PA X [e, e2] ta)
    (hs : starEach [e, e2] X.env = (false, eval e X.env) :: starEach [e2] X.env := by rfl) (hpl : (backTo pos (starEach [e2] X.env)).any (·.1) = false := by rfl) (h : X.K = K := by rfl) :
    PI X (.Tuple elts kk tpos) (.Call (.Name "zip" p) [e, e2] [] pos) (iZipA K ta) := h ▸ pi_zipA hg hm ha hs hpl
theorem kpg_tup {es : List Expr} {k : Nat} {t : TGs} {n : Nat} {pos : Pos} (hc : X.calm = true) (g : PGs X es t)
    (hn : (assignEach es X.env).length = n := by rfl) (hst : (assignEach es X.env).findIdx? (·.1) = none := by rfl) (h : X.K = K := by rfl) : PG X (.Tuple es k pos) (gTup K n t) := h ▸ pg_tup hc g hn hst
end
/-- the scope of a comprehension -/
def compScope : Expr → Scope
  | .ListComp _ _ s _ => s
  | .DictComp _ _ _ s _ => s
  | _ => { kind := .function, names := [], isGenerator := false, isCoroutine := false }
def argE : Expr → Nat → Expr
  | .Call _ as _ _, i => as.getD i (.Tuple [] 0 ⟨0, 0, 0, 0⟩)
  | .Tuple es _ _, i => es.getD i (.Tuple [] 0 ⟨0, 0, 0, 0⟩)
  | e, _ => e
def exprS : Stmt → Expr
  | .Expr e _ => e
  | .Return (some e) _ => e
  | .Assign _ e _ => e
  | _ => .Tuple [] 0 ⟨0, 0, 0, 0⟩
def inS : Stmt → Nat → Stmt
  | .For _ _ b _ _, i => b.getD i (.Pass ⟨0, 0, 0, 0⟩)
  | .If _ b _ _, i => b.getD i (.Pass ⟨0, 0, 0, 0⟩)
  | s, _ => s
def atS (l : List Stmt) (i : Nat) : Stmt := l.getD i (.Pass ⟨0, 0, 0, 0⟩)
abbrev cx_Office_init : Expr := argE (exprS (inS (atS (defBody (inClass (top 15) 0)) 7) 0)) 0
abbrev cx_law_some_book : Expr := argE (argE (exprS (inS (atS (defBody (top 67)) 2) 2)) 1) 0
end LW
/-! Plain mathematics: offices, machines, the search by layers. -/
namespace LW
def lotOf (ws : List (List Nat)) (w : Nat) : List Nat := ws.getD w []
/-- the notes of some desks -/
def pick (ns lot : List Nat) : List Nat := lot.map fun d => ns.getD d 0
/-- the notes of some desks changed, one after another -/
def putAll (lot later ns : List Nat) : List Nat := (lot.zip later).foldl (fun acc p => acc.set p.1 p.2) ns
/-- a machine: works (lots of desks), how many notes, what the works make of notes, what is told -/
structure Mach where
  d : Nat
  ws : List (List Nat)
  many : List Nat
  mv : Nat → List Nat → List Nat
  tl : List Nat → Nat
def Mach.next (M : Mach) (ns : List Nat) (w : Nat) : List Nat := putAll (lotOf M.ws w) (M.mv w (pick ns (lotOf M.ws w))) ns
def Mach.first (M : Mach) : List Nat := List.replicate M.d 0
def Mach.run (M : Mach) (ns : List Nat) (row : List Nat) : List Nat := row.foldl M.next ns
/-- all tuples of notes -/
def longer (found : List (List Nat)) (number : Nat) : List (List Nat) := found.flatMap fun notes => (List.range number).map fun fresh => notes ++ [fresh]
def allN (many : List Nat) : List (List Nat) := many.foldl longer [[]]
def prod (many : List Nat) : Nat := many.foldl (fun a b => a * b) 1
/-- notes that fit -/
def Fit (many ns : List Nat) : Prop := ns.length = many.length ∧ ∀ (i a m : Nat), ns[i]? = some a → many[i]? = some m → a < m
/-- a lot of desks below d, ascending -/
structure LotOk (d : Nat) (lot : List Nat) : Prop where
  ne : lot ≠ []
  lt : ∀ x ∈ lot, x < d
  up : ∀ (i a b : Nat), lot[i]? = some a → lot[i + 1]? = some b → a < b
structure OffOk (d : Nat) (ws : List (List Nat)) : Prop where
  d1 : 1 ≤ d
  d4 : d ≤ 4
  w1 : 1 ≤ ws.length
  w10 : ws.length ≤ 10
  lots : ∀ l ∈ ws, LotOk d l
def Mach.manyOf (M : Mach) (w : Nat) : List Nat := pick M.many (lotOf M.ws w)
structure Mach.Ok (M : Mach) : Prop where
  off : OffOk M.d M.ws
  len : M.many.length = M.d
  one : ∀ m ∈ M.many, 1 ≤ m ∧ m ≤ 6
  small : (M.d ≤ 2) ∨ (M.d = 3 ∧ ∀ m ∈ M.many, m ≤ 3) ∨ (M.d = 4 ∧ ∀ m ∈ M.many, m ≤ 2)
  mv : ∀ (w : Nat) ns, w < M.ws.length → Fit (M.manyOf w) ns → Fit (M.manyOf w) (M.mv w ns)
  tl : ∀ ns, Fit M.many ns → M.tl ns ≤ 9

/-! ### the search by layers -/
section
variable {α : Type} [DecidableEq α]
structure Sys (α : Type) where
  next : α → Nat → α
  bad : α → Bool
  nw : Nat
/-- one work more, of a row that leads to s -/
def Sys.add (S : Sys α) (p : List Nat × α) (acc : List α × List (List Nat × α)) (w : Nat) : List α × List (List Nat × α) :=
  if S.next p.2 w ∈ acc.1 then acc else (acc.1 ++ [S.next p.2 w], acc.2 ++ [(p.1 ++ [w], S.next p.2 w)])
def Sys.expand (S : Sys α) (acc : List α × List (List Nat × α)) (p : List Nat × α) : List α × List (List Nat × α) := (List.range S.nw).foldl (S.add p) acc
def Sys.layer (S : Sys α) (known : List α) (layer : List (List Nat × α)) : List α × List (List Nat × α) := layer.foldl S.expand (known, [])
/-- what the search says, in n turns; G holds of all that comes -/
inductive Bfs (S : Sys α) (G : List α → List (List Nat × α) → Prop) : Nat → List α → List (List Nat × α) → Option (List Nat) → Prop
  | done {n known} : Bfs S G n known [] none
  | hit {n known pre row s post} : G known (pre ++ (row, s) :: post) → (∀ p ∈ pre, S.bad p.2 = false) → S.bad s = true → Bfs S G n known (pre ++ (row, s) :: post) (some row)
  | step {n known layer res} : G known layer → layer ≠ [] → (∀ p ∈ layer, S.bad p.2 = false) → Bfs S G n (S.layer known layer).1 (S.layer known layer).2 res → Bfs S G (n + 1) known layer res
/-- the closure: items met so far, the place looked at -/
def meet (S : Sys α) (s : α) (found : List α) (w : Nat) : List α := if S.next s w ∈ found then found else found ++ [S.next s w]
def meets (S : Sys α) (found : List α) (s : α) : List α := (List.range S.nw).foldl (meet S s) found
inductive Met (S : Sys α) (G : List α → Prop) : Nat → Nat → List α → List α → Prop
  | done {n i found} : G found → found.length ≤ i → Met S G n i found found
  | step {n i s found res} : G found → found[i]? = some s → Met S G n (i + 1) (meets S found s) res → Met S G (n + 1) i found res
end
/-- what the searches may lean on: sizes, and that the states are right -/
def Few {α : Type} (Ok : α → Prop) (known : List α) (layer : List (List Nat × α)) : Prop := known.length ≤ 10000 ∧ layer.length ≤ 10000 ∧ ∀ p ∈ layer, p.1.length ≤ 10000 ∧ Ok p.2
def FewM {α : Type} (Ok : α → Prop) (found : List α) : Prop := found.length ≤ 10000 ∧ ∀ s ∈ found, Ok s
/-! ### books -/
def step1 (steps : List (List Nat)) (s w : Nat) : Nat := (steps.getD s []).getD w 0
def stoodM (steps : List (List Nat)) (s : Nat) (row : List Nat) : Nat := row.foldl (step1 steps) s
/-- right parts of a book, of any number of standings -/
structure StepsOk (nw : Nat) (tel : List Nat) (steps : List (List Nat)) : Prop where
  one : 1 ≤ tel.length
  nine : ∀ t ∈ tel, t ≤ 9
  len : steps.length = tel.length
  each : ∀ gs ∈ steps, gs.length = nw ∧ ∀ g ∈ gs, g < tel.length
/-- a book against a machine -/
def sysB (tel : List Nat) (steps : List (List Nat)) (M : Mach) : Sys (Nat × List Nat) := ⟨fun p w => (step1 steps p.1 w, M.next p.2 w), fun p => decide (tel.getD p.1 0 ≠ M.tl p.2), M.ws.length⟩
def okB (tel : List Nat) (M : Mach) (p : Nat × List Nat) : Prop := p.1 < tel.length ∧ Fit M.many p.2
/-- two books -/
def sysP (tel1 : List Nat) (steps1 : List (List Nat)) (tel2 : List Nat) (steps2 : List (List Nat)) (nw : Nat) : Sys (Nat × Nat) :=
  ⟨fun p w => (step1 steps1 p.1 w, step1 steps2 p.2 w), fun p => decide (tel1.getD p.1 0 ≠ tel2.getD p.2 0), nw⟩
def okP (tel1 tel2 : List Nat) (p : Nat × Nat) : Prop := p.1 < tel1.length ∧ p.2 < tel2.length
/-- a machine alone -/
def sysM (M : Mach) : Sys (List Nat) := ⟨M.next, fun _ => false, M.ws.length⟩
def telOf (M : Mach) (order : List (List Nat)) : List Nat := order.map M.tl
def stepsOf (M : Mach) (order : List (List Nat)) : List (List Nat) := order.map fun ns => (List.range M.ws.length).map fun w => order.idxOf (M.next ns w)
end LW
namespace LW
open PySem PySem.Spec PyProof.Rows L2 RZ
/-! ### the objects -/
structure FO (K : PySem.W.Frag) (C : Addr) : Prop where
  cl : Cls K C
  desks : NoAttr K C "desks"
  works : NoAttr K C "works"
  own : NoAttr K C "kept_own"
  meets : NoAttr K C "kept_meets"
structure FB (K : PySem.W.Frag) (C : Addr) : Prop where
  cl : Cls K C
  office : NoAttr K C "office"
  telling : NoAttr K C "telling"
  steps : NoAttr K C "steps"
structure FM (K : PySem.W.Frag) (C : Addr) : Prop where
  cl : Cls K C
  office : NoAttr K C "office"
  many : NoAttr K C "many"
  moves : NoAttr K C "kept_moves"
  tells : NoAttr K C "kept_tells"
/-- an office stands at p -/
def OffAt (K : PySem.W.Frag) (C : Addr) (H : Hp) (p : Addr) (d : Nat) (ws : List (List Nat)) : Prop :=
  FO K C ∧ ∃ dx fs v, H p = some (.ins C dx fs) ∧ fs.lookup ("desks" : Str) = some (.int (d : Int)) ∧ fs.lookup ("works" : Str) = some v ∧ T2 H v ws
def bkF (o v1 v2 : V) : List (Str × V) := putF "steps" v2 (putF "telling" v1 (putF "office" o []))
/-- a book stands at p -/
def BookAt (K : PySem.W.Frag) (H : Hp) (p o : Addr) (tel : List Nat) (steps : List (List Nat)) : Prop :=
  ∃ C dx fs v1 v2, FB K C ∧ H p = some (.ins C dx fs) ∧ fs.lookup ("office" : Str) = some (.ref o) ∧ fs.lookup ("telling" : Str) = some v1 ∧ T1 H v1 tel ∧ fs.lookup ("steps" : Str) = some v2 ∧ T2 H v2 steps
/-- a dict with these keys -/
def DictAt (H : Hp) (x : V) (keys : List (List Nat)) (R : V → List Nat → Prop) : Prop :=
  ∃ p kvs, x = .ref p ∧ H p = some (.dT kvs) ∧ kvs.map (·.1) = keys.map (fun k => ik (iz k)) ∧ ∀ k ∈ keys, ∃ y, valV kvs (ik (iz k)) = some y ∧ R y k
def MoveAt (H : Hp) (x : V) (many : List Nat) (f : List Nat → List Nat) : Prop := DictAt H x (allN many) fun y k => T1 H y (f k)
def TellAt (H : Hp) (x : V) (many : List Nat) (t : List Nat → Nat) : Prop := DictAt H x (allN many) fun y k => y = .int (t k : Nat)
def MovesAt (H : Hp) (v : V) (M : Mach) : Prop := ∃ (a : Addr) (vs : List V), v = .ref a ∧ H a = some (.tup vs) ∧ vs.length = M.ws.length ∧ ∀ (w : Nat) x, vs[w]? = some x → MoveAt H x (M.manyOf w) (M.mv w)
def PartsAt (H : Hp) (v : V) (d : Nat) (ws : List (List Nat)) : Prop := ∃ a v2, v = .ref a ∧ H a = some (.tup [.int (d : Int), v2]) ∧ T2 H v2 ws
def MadeAt (H : Hp) (v : V) (M : Mach) : Prop := ∃ a v1 v2 v3, v = .ref a ∧ H a = some (.tup [v1, v2, v3]) ∧ T1 H v1 M.many ∧ MovesAt H v2 M ∧ TellAt H v3 M.many M.tl
def MachAt (K : PySem.W.Frag) (C : Addr) (H : Hp) (p o : Addr) (M : Mach) : Prop :=
  FM K C ∧ ∃ dx fs v1 v2 v3, H p = some (.ins C dx fs) ∧ fs.lookup ("office" : Str) = some (.ref o) ∧ fs.lookup ("many" : Str) = some v1 ∧ T1 H v1 M.many ∧ fs.lookup ("kept_moves" : Str) = some v2 ∧ MovesAt H v2 M ∧ fs.lookup ("kept_tells" : Str) = some v3 ∧ TellAt H v3 M.many M.tl
/-- a list of tuples of numbers -/
def LT (H : Hp) (l : Addr) (xs : List (List Nat)) : Prop := ∃ vs, H l = some (.lst vs) ∧ vs.length = xs.length ∧ ∀ (i : Nat) x y, vs[i]? = some x → xs[i]? = some y → T1 H x y
/-- a row, or None -/
def RowV (H : Hp) (v : V) : Option (List Nat) → Prop
  | none => v = .non
  | some row => T1 H v row
/-- the dice: the list at d, its cells at c -/
def DiceAt (H : Hp) (d c : Addr) : Prop := ∃ (i k p j : Int) (cells : List Int), H d = some (.lst [.ref c, .int i, .int k, .int p, .int j]) ∧ H c = some (.lst (cells.map V.int)) ∧ c ≠ d ∧ (∀ z ∈ cells, 0 ≤ z) ∧ cells.length ≤ 63 ∧
  0 ≤ i ∧ i ≤ (cells.length : Int) ∧ 0 ≤ k ∧ 0 ≤ p ∧ p < 2147483647 ∧ 0 ≤ j

/-! ### they stay -/
section
variable {K : PySem.W.Frag} {ch : List Addr} {H H' : Hp}
/-- objects that are neither lists nor sets: what the changing objects are not -/
theorem OffAt.kp {C p : Addr} {d : Nat} {ws : List (List Nat)} (k : Kp ch H H') (h : OffAt K C H p d ws) (n : p ∉ ch) : OffAt K C H' p d ws :=
  let ⟨f, dx, fs, v, h1, h2, h3, h4⟩ := h
  ⟨f, dx, fs, v, k.at h1 n, h2, h3, h4.tk k.tk⟩
theorem BookAt.kp {p o : Addr} {tel : List Nat} {steps : List (List Nat)} (k : Kp ch H H') (h : BookAt K H p o tel steps) (n : p ∉ ch) : BookAt K H' p o tel steps :=
  let ⟨C, dx, fs, v1, v2, f, h1, h2, h3, h4, h5, h6⟩ := h
  ⟨C, dx, fs, v1, v2, f, k.at h1 n, h2, h3, h4.tk k.tk, h5, T2.tk k.tk h6⟩
/-- no dict of H is in ch -/
def NoD (ch : List Addr) (H : Hp) : Prop := ∀ p kvs, H p = some (.dT kvs) → p ∉ ch
theorem NoD.nil : NoD [] H := fun _ _ _ z => nomatch z
theorem DictAt.kp {x : V} {keys : List (List Nat)} {R R' : V → List Nat → Prop} (k : Kp ch H H') (n : NoD ch H) (hR : ∀ y q, R y q → R' y q) (h : DictAt H x keys R) : DictAt H' x keys R' :=
  let ⟨p, kvs, h1, h2, h3, h4⟩ := h
  ⟨p, kvs, h1, k.at h2 (n p kvs h2), h3, fun q hq => let ⟨y, e, r⟩ := h4 q hq; ⟨y, e, hR _ _ r⟩⟩
theorem MoveAt.kp {x : V} {many : List Nat} {f : List Nat → List Nat} (k : Kp ch H H') (n : NoD ch H) (h : MoveAt H x many f) : MoveAt H' x many f := DictAt.kp k n (fun _ _ r => T1.tk k.tk r) h
theorem TellAt.kp {x : V} {many : List Nat} {t : List Nat → Nat} (k : Kp ch H H') (n : NoD ch H) (h : TellAt H x many t) : TellAt H' x many t := DictAt.kp k n (fun _ _ r => r) h
theorem MovesAt.kp {v : V} {M : Mach} (k : Kp ch H H') (n : NoD ch H) (h : MovesAt H v M) : MovesAt H' v M :=
  let ⟨a, vs, h1, h2, h3, h4⟩ := h
  ⟨a, vs, h1, k.tup h2, h3, fun w x e => (h4 w x e).kp k n⟩
theorem PartsAt.kp {v : V} {d : Nat} {ws : List (List Nat)} (k : Kp ch H H') (h : PartsAt H v d ws) : PartsAt H' v d ws :=
  let ⟨a, v2, h1, h2, h3⟩ := h
  ⟨a, v2, h1, k.tup h2, T2.tk k.tk h3⟩
theorem MadeAt.kp {v : V} {M : Mach} (k : Kp ch H H') (n : NoD ch H) (h : MadeAt H v M) : MadeAt H' v M :=
  let ⟨a, v1, v2, v3, h1, h2, h3, h4, h5⟩ := h
  ⟨a, v1, v2, v3, h1, k.tup h2, h3.tk k.tk, h4.kp k n, h5.kp k n⟩
theorem MachAt.kp {C p o : Addr} {M : Mach} (k : Kp ch H H') (n : NoD ch H) (np : p ∉ ch) (h : MachAt K C H p o M) : MachAt K C H' p o M :=
  let ⟨f, dx, fs, v1, v2, v3, h1, h2, h3, h4, h5, h6, h7, h8⟩ := h
  ⟨f, dx, fs, v1, v2, v3, k.at h1 np, h2, h3, h4.tk k.tk, h5, h6.kp k n, h7, h8.kp k n⟩
theorem LT.kp {l : Addr} {xs : List (List Nat)} (k : Kp ch H H') (n : l ∉ ch) (h : LT H l xs) : LT H' l xs :=
  let ⟨vs, h1, h2, h3⟩ := h
  ⟨vs, k.at h1 n, h2, fun i x y e1 e2 => (h3 i x y e1 e2).tk k.tk⟩
theorem DiceAt.kp {d c : Addr} (k : Kp ch H H') (nd : d ∉ ch) (nc : c ∉ ch) (h : DiceAt H d c) : DiceAt H' d c :=
  let ⟨i, kk, p, j, cells, h1, h2, h3⟩ := h
  ⟨i, kk, p, j, cells, k.at h1 nd, k.at h2 nc, h3⟩
theorem DiceAt.d {d c : Addr} (h : DiceAt H d c) : H d ≠ none := by obtain ⟨i, kk, p, j, cells, h1, _⟩ := h; rw [h1]; exact fun z => nomatch z
theorem DiceAt.c {d c : Addr} (h : DiceAt H d c) : H c ≠ none := by obtain ⟨i, kk, p, j, cells, _, h1, _⟩ := h; rw [h1]; exact fun z => nomatch z
theorem DiceAt.ne {d c : Addr} (h : DiceAt H d c) : c ≠ d := let ⟨_, _, _, _, _, _, _, h3, _⟩ := h; h3
theorem RowV.tk {v : V} {res : Option (List Nat)} (k : Tk H H') (h : RowV H v res) : RowV H' v res := by
  cases res with
  | none => exact h
  | some row => exact T1.tk k h
end

/-! ### the promises -/
section
variable (K : PySem.W.Frag)
def sp_is_integer : Sp := fun vs H Q _ => ∃ i : Int, vs = [.int i] ∧ ∀ H', Kp [] H H' → Q (.bl true) H'
def sp_is_within : Sp := fun vs H Q _ => ∃ i a b : Int, vs = [.int i, .int a, .int b] ∧ ∀ H', Kp [] H H' → Q (.bl (decide (a ≤ i ∧ i ≤ b))) H'
def sp_is_lot : Sp := fun vs H Q _ => ∃ (v : V) (ns : List Nat) (d : Nat), vs = [v, .int (d : Int)] ∧ T1 H v ns ∧ LotOk d ns ∧ ns.length ≤ 10 ∧ ∀ H', Kp [] H H' → Q (.bl true) H'
def sp_are_works : Sp := fun vs H Q _ => ∃ (v : V) (d : Nat) (ws : List (List Nat)), vs = [.int (d : Int), v] ∧ T2 H v ws ∧ OffOk d ws ∧ (∀ l ∈ ws, l.length ≤ 10) ∧ ∀ H', Kp [] H H' → Q (.bl true) H'
def sp_Office_init (C : Addr) : Sp := fun vs H Q _ => ∃ (p dx : Addr) (v : V) (d : Nat) (ws : List (List Nat)), vs = [.ref p, .int (d : Int), v] ∧ H p = some (.ins C dx []) ∧ T2 H v ws ∧ OffOk d ws ∧ (∀ l ∈ ws, l.length ≤ 10) ∧
  ∀ H', Kp [p] H H' → OffAt K C H' p d ws → Q .non H'
def sp_Office_eq (C : Addr) : Sp := fun vs H Q _ => ∃ (a b : Addr) (d : Nat) (ws : List (List Nat)), vs = [.ref a, .ref b] ∧ OffAt K C H a d ws ∧ OffAt K C H b d ws ∧ ∀ H', Kp [] H H' → Q (.bl true) H'
def sp_is_work (C : Addr) : Sp := fun vs H Q _ => ∃ (o : Addr) (d i : Nat) (ws : List (List Nat)), vs = [.ref o, .int (i : Int)] ∧ OffAt K C H o d ws ∧ i < ws.length ∧ ∀ H', Kp [] H H' → Q (.bl true) H'
def sp_is_row_of (C : Addr) : Sp := fun vs H Q _ => ∃ (o : Addr) (v : V) (d : Nat) (ws : List (List Nat)) (row : List Nat), vs = [.ref o, v] ∧ OffAt K C H o d ws ∧ T1 H v row ∧ row.length ≤ 10000 ∧ (∀ i ∈ row, i < ws.length) ∧ ∀ H', Kp [] H H' → Q (.bl true) H'
def sp_check_row (C : Addr) : Sp := fun vs H Q _ => ∃ (o : Addr) (v : V) (d : Nat) (ws : List (List Nat)) (row : List Nat), vs = [.ref o, v] ∧ OffAt K C H o d ws ∧ T1 H v row ∧ row.length ≤ 10000 ∧ (∀ i ∈ row, i < ws.length) ∧ ∀ H', Kp [] H H' → Q .non H'
def sp_are_told : Sp := fun vs H Q _ => ∃ (v : V) (tel : List Nat), vs = [v] ∧ T1 H v tel ∧ 1 ≤ tel.length ∧ tel.length ≤ 12 ∧ (∀ t ∈ tel, t ≤ 9) ∧ ∀ H', Kp [] H H' → Q (.bl true) H'
def sp_are_standings : Sp := fun vs H Q _ => ∃ (v : V) (gs : List Nat) (nw b : Nat), vs = [v, .int (nw : Int), .int (b : Int)] ∧ T1 H v gs ∧ gs.length = nw ∧ nw ≤ 10 ∧ (∀ g ∈ gs, g < b) ∧ ∀ H', Kp [] H H' → Q (.bl true) H'
def sp_Book_keep (C : Addr) : Sp := fun vs H Q _ => ∃ (p dx : Addr) (o v1 v2 : V), vs = [.ref p, o, v1, v2] ∧ FB K C ∧ H p = some (.ins C dx []) ∧ ∀ H', Kp [p] H H' → H' p = some (.ins C dx (bkF o v1 v2)) → Q .non H'
def sp_Book_init (CO C : Addr) : Sp := fun vs H Q _ => ∃ (p dx o : Addr) (v1 v2 : V) (d : Nat) (ws : List (List Nat)) (tel : List Nat) (steps : List (List Nat)), vs = [.ref p, .ref o, v1, v2] ∧ FB K C ∧ H p = some (.ins C dx []) ∧ OffAt K CO H o d ws ∧ ws.length ≤ 10 ∧
  T1 H v1 tel ∧ T2 H v2 steps ∧ StepsOk ws.length tel steps ∧ tel.length ≤ 12 ∧ ∀ H', Kp [p] H H' → H' p = some (.ins C dx (bkF (.ref o) v1 v2)) → Q .non H'
def sp_raw_book : Sp := fun vs H Q _ => ∃ (o l1 l2 : Addr) (tel : List Nat) (steps : List (List Nat)) (ls : List V), vs = [.ref o, .ref l1, .ref l2] ∧ H l1 = some (.lst (vz tel)) ∧ H l2 = some (.lst ls) ∧ ls.length = steps.length ∧ steps.length ≤ 10000 ∧
  (∀ (i : Nat) x gs, ls[i]? = some x → steps[i]? = some gs → ∃ q, x = .ref q ∧ H q = some (.lst (vz gs))) ∧ ∀ p H', Kp [] H H' → BookAt K H' p o tel steps → Q (.ref p) H'
def sp_stood_from : Sp := fun vs H Q _ => ∃ (p o : Addr) (v : V) (s nw : Nat) (row tel : List Nat) (steps : List (List Nat)), vs = [.ref p, .int (s : Int), v] ∧ BookAt K H p o tel steps ∧ StepsOk nw tel steps ∧ T1 H v row ∧ s < tel.length ∧ (∀ i ∈ row, i < nw) ∧
  ∀ H', Kp [] H H' → Q (.int (stoodM steps s row : Nat)) H'
def sp_stood (CO : Addr) : Sp := fun vs H Q _ => ∃ (p o : Addr) (v : V) (d : Nat) (ws : List (List Nat)) (row tel : List Nat) (steps : List (List Nat)), vs = [.ref p, v] ∧ BookAt K H p o tel steps ∧ OffAt K CO H o d ws ∧ StepsOk ws.length tel steps ∧ T1 H v row ∧ row.length ≤ 10000 ∧ (∀ i ∈ row, i < ws.length) ∧
  ∀ H', Kp [] H H' → Q (.int (stoodM steps 0 row : Nat)) H'
def sp_told (CO : Addr) : Sp := fun vs H Q _ => ∃ (p o : Addr) (v : V) (d : Nat) (ws : List (List Nat)) (row tel : List Nat) (steps : List (List Nat)), vs = [.ref p, v] ∧ BookAt K H p o tel steps ∧ OffAt K CO H o d ws ∧ StepsOk ws.length tel steps ∧ T1 H v row ∧ row.length ≤ 10000 ∧ (∀ i ∈ row, i < ws.length) ∧
  ∀ H', Kp [] H H' → Q (.int (tel.getD (stoodM steps 0 row) 0 : Nat)) H'
def sp_check_match (CO CM : Addr) : Sp := fun vs H Q _ => ∃ (p m o : Addr) (d : Nat) (ws : List (List Nat)) (tel : List Nat) (steps : List (List Nat)) (M : Mach), vs = [.ref p, .ref m] ∧ BookAt K H p o tel steps ∧ MachAt K CM H m o M ∧ OffAt K CO H o d ws ∧ ∀ H', Kp [] H H' → Q .non H'
def sp_row_that_parts : Sp := fun vs H Q _ => ∃ (p q o1 o2 : Addr) (nw n : Nat) (tel1 tel2 : List Nat) (steps1 steps2 : List (List Nat)) (res : Option (List Nat)), vs = [.ref p, .ref q] ∧ BookAt K H p o1 tel1 steps1 ∧ BookAt K H q o2 tel2 steps2 ∧ nw ≤ 10 ∧
  StepsOk nw tel1 steps1 ∧ StepsOk nw tel2 steps2 ∧ Bfs (sysP tel1 steps1 tel2 steps2 nw) (Few (okP tel1 tel2)) n [(0, 0)] [([], (0, 0))] res ∧ ∀ v H', Kp [] H H' → RowV H' v res → Q v H'
def sp_product_of : Sp := fun vs H Q _ => ∃ (v : V) (many : List Nat), vs = [v] ∧ T1 H v many ∧ many.length ≤ 10 ∧ (∀ m ∈ many, m ≤ 6) ∧ ∀ H', Kp [] H H' → Q (.int (prod many : Nat)) H'
def sp_are_many (C : Addr) : Sp := fun vs H Q _ => ∃ (o : Addr) (v : V) (d : Nat) (ws : List (List Nat)) (many : List Nat), vs = [.ref o, v] ∧ OffAt K C H o d ws ∧ T1 H v many ∧ many.length = d ∧ d ≤ 4 ∧ (∀ m ∈ many, 1 ≤ m ∧ m ≤ 6) ∧ prod many ≤ 200 ∧ ∀ H', Kp [] H H' → Q (.bl true) H'
def sp_all_notes : Sp := fun vs H Q _ => ∃ (v : V) (many : List Nat), vs = [v] ∧ T1 H v many ∧ many.length ≤ 4 ∧ (∀ m ∈ many, m ≤ 6) ∧ ∀ l H', Kp [] H H' → H l = none → LT H' l (allN many) → Q (.ref l) H'
def sp_are_notes : Sp := fun vs H Q _ => ∃ (v1 v2 : V) (many ns : List Nat), vs = [v1, v2] ∧ T1 H v1 many ∧ T1 H v2 ns ∧ Fit many ns ∧ many.length ≤ 4 ∧ ∀ H', Kp [] H H' → Q (.bl true) H'
def sp_many_of : Sp := fun vs H Q _ => ∃ (v1 v2 : V) (lot many : List Nat), vs = [v1, v2] ∧ T1 H v1 lot ∧ T1 H v2 many ∧ lot.length ≤ 10 ∧ (∀ x ∈ lot, x < many.length) ∧ ∀ v H', Kp [] H H' → T1 H' v (pick many lot) → Q v H'
def sp_is_move : Sp := fun vs H Q _ => ∃ (v x : V) (many : List Nat) (f : List Nat → List Nat), vs = [v, x] ∧ T1 H v many ∧ MoveAt H x many f ∧ many.length ≤ 4 ∧ (∀ m ∈ many, m ≤ 6) ∧ (∀ ns, Fit many ns → Fit many (f ns)) ∧ ∀ H', Kp [] H H' → Q (.bl true) H'
def sp_are_moves (C : Addr) : Sp := fun vs H Q _ => ∃ (o : Addr) (v1 v2 : V) (M : Mach), vs = [.ref o, v1, v2] ∧ OffAt K C H o M.d M.ws ∧ T1 H v1 M.many ∧ MovesAt H v2 M ∧ M.Ok ∧ ∀ H', Kp [] H H' → Q (.bl true) H'
def sp_are_tells : Sp := fun vs H Q _ => ∃ (v x : V) (many : List Nat) (t : List Nat → Nat), vs = [v, x] ∧ T1 H v many ∧ TellAt H x many t ∧ many.length ≤ 4 ∧ (∀ m ∈ many, m ≤ 6) ∧ (∀ ns, Fit many ns → t ns ≤ 9) ∧ ∀ H', Kp [] H H' → Q (.bl true) H'
def sp_Machine_init (CO C : Addr) : Sp := fun vs H Q _ => ∃ (p dx o : Addr) (v1 v2 v3 : V) (M : Mach), vs = [.ref p, .ref o, v1, v2, v3] ∧ FM K C ∧ H p = some (.ins C dx []) ∧ OffAt K CO H o M.d M.ws ∧ T1 H v1 M.many ∧ MovesAt H v2 M ∧ TellAt H v3 M.many M.tl ∧ M.Ok ∧
  ∀ H', Kp [p] H H' → MachAt K C H' p o M → Q .non H'
/-- a machine and its office -/
def Both (CO CM : Addr) (H : Hp) (m o : Addr) (M : Mach) : Prop := MachAt K CM H m o M ∧ OffAt K CO H o M.d M.ws ∧ M.Ok
theorem Both.kp {K : PySem.W.Frag} {CO CM : Addr} {H H' : Hp} {m o : Addr} {M : Mach} (k : Kp [] H H') (h : Both K CO CM H m o M) : Both K CO CM H' m o M := ⟨h.1.kp k NoD.nil (fun z => nomatch z), h.2.1.kp k (fun z => nomatch z), h.2.2⟩
def sp_first_notes (CO CM : Addr) : Sp := fun vs H Q _ => ∃ (m o : Addr) (M : Mach), vs = [.ref m] ∧ Both K CO CM H m o M ∧ ∀ v H', Kp [] H H' → T1 H' v M.first → Q v H'
def sp_moved (CO CM : Addr) : Sp := fun vs H Q _ => ∃ (m o : Addr) (v : V) (M : Mach) (ns : List Nat) (i : Nat), vs = [.ref m, v, .int (i : Int)] ∧ Both K CO CM H m o M ∧ T1 H v ns ∧ Fit M.many ns ∧ i < M.ws.length ∧ ∀ v' H', Kp [] H H' → T1 H' v' (M.next ns i) → Q v' H'
def sp_notes_there (CO CM : Addr) : Sp := fun vs H Q _ => ∃ (m o : Addr) (v : V) (M : Mach) (row : List Nat), vs = [.ref m, v] ∧ Both K CO CM H m o M ∧ T1 H v row ∧ (∀ i ∈ row, i < M.ws.length) ∧ ∀ v' H', Kp [] H H' → T1 H' v' (M.run M.first row) → Q v' H'
def sp_told_there (CO CM : Addr) : Sp := fun vs H Q _ => ∃ (m o : Addr) (v : V) (M : Mach) (row : List Nat), vs = [.ref m, v] ∧ Both K CO CM H m o M ∧ T1 H v row ∧ row.length ≤ 10000 ∧ (∀ i ∈ row, i < M.ws.length) ∧ ∀ H', Kp [] H H' → Q (.int (M.tl (M.run M.first row) : Nat)) H'
def sp_met_notes (CO CM : Addr) : Sp := fun vs H Q _ => ∃ (m o : Addr) (M : Mach) (n : Nat) (order : List (List Nat)), vs = [.ref m] ∧ Both K CO CM H m o M ∧ Met (sysM M) (FewM (Fit M.many)) n 0 [M.first] order ∧ ∀ l H', Kp [] H H' → H l = none → LT H' l order → Q (.ref l) H'
def sp_book_of (CO CM : Addr) : Sp := fun vs H Q _ => ∃ (m o : Addr) (M : Mach) (n : Nat) (order : List (List Nat)), vs = [.ref m] ∧ Both K CO CM H m o M ∧ Met (sysM M) (FewM (Fit M.many)) n 0 [M.first] order ∧ ∀ p H', Kp [] H H' → BookAt K H' p o (telOf M order) (stepsOf M order) → Q (.ref p) H'
/-- what the two ways ahead of the search want -/
structure Asked (CO CM : Addr) (H : Hp) (p m o : Addr) (tel : List Nat) (steps : List (List Nat)) (M : Mach) (res : Option (List Nat)) : Prop where
  bk : BookAt K H p o tel steps
  both : Both K CO CM H m o M
  ok : StepsOk M.ws.length tel steps
  ex : ∃ n1 n2 order, Met (sysM M) (FewM (Fit M.many)) n1 0 [M.first] order ∧ StepsOk M.ws.length (telOf M order) (stepsOf M order) ∧
    Bfs (sysP tel steps (telOf M order) (stepsOf M order) M.ws.length) (Few (okP tel (telOf M order))) n2 [(0, 0)] [([], (0, 0))] res
def sp_wrong_row (CO CM : Addr) : Sp := fun vs H Q _ => ∃ (p m o : Addr) (tel : List Nat) (steps : List (List Nat)) (M : Mach) (res : Option (List Nat)), vs = [.ref p, .ref m] ∧ Asked K CO CM H p m o tel steps M res ∧ ∀ v H', Kp [] H H' → RowV H' v res → Q v H'
def sp_is_for (CO CM : Addr) : Sp := fun vs H Q _ => ∃ (p m o : Addr) (tel : List Nat) (steps : List (List Nat)) (M : Mach) (res : Option (List Nat)), vs = [.ref p, .ref m] ∧ Asked K CO CM H p m o tel steps M res ∧ ∀ H', Kp [] H H' → Q (.bl res.isNone) H'
def sp_law_dice : Sp := fun vs H Q _ => ∃ (a : Addr) (ns : List Int), vs = [.ref a] ∧ SqL K H a (ns.map V.int) ∧ ns.length ≤ 63 ∧ ∀ d c H', Kp [] H H' → H d = none → H c = none → DiceAt H' d c → Q (.ref d) H'
def sp_law_draw : Sp := fun vs H Q _ => ∃ (d c : Addr) (s : Nat), vs = [.ref d, .int (s : Int)] ∧ DiceAt H d c ∧ 1 ≤ s ∧ s ≤ 10000 ∧ ∀ (n : Nat) H', n < s → Kp [d] H H' → DiceAt H' d c → Q (.int (n : Int)) H'
def sp_law_parts : Sp := fun vs H Q _ => ∃ (d c : Addr), vs = [.ref d, .int 4] ∧ DiceAt H d c ∧ ∀ v dd ws H', Kp [d] H H' → DiceAt H' d c → OffOk dd ws → PartsAt H' v dd ws → Q v H'
def sp_law_made (C : Addr) : Sp := fun vs H Q _ => ∃ (v : V) (d : Nat) (ws : List (List Nat)), vs = [v] ∧ PartsAt H v d ws ∧ OffOk d ws ∧ ∀ p H', Kp [] H H' → OffAt K C H' p d ws → Q (.ref p) H'
def sp_law_row : Sp := fun vs H Q _ => ∃ (d c : Addr) (v : V) (dd : Nat) (ws : List (List Nat)), vs = [.ref d, v, .int 8] ∧ DiceAt H d c ∧ PartsAt H v dd ws ∧ OffOk dd ws ∧ ∀ v' row H', Kp [d] H H' → DiceAt H' d c → T1 H' v' row → row.length ≤ 8 → (∀ i ∈ row, i < ws.length) → Q v' H'
def sp_law_all_notes : Sp := fun vs H Q _ => ∃ (a : Addr) (many : List Nat), vs = [.ref a] ∧ (H a = some (.lst (vz many)) ∨ H a = some (.tup (vz many))) ∧ many.length ≤ 4 ∧ (∀ m ∈ many, m ≤ 6) ∧ ∀ l H', Kp [] H H' → H l = none → LT H' l (allN many) → Q (.ref l) H'
def sp_law_machine_parts : Sp := fun vs H Q _ => ∃ (d c : Addr) (v : V) (dd : Nat) (ws : List (List Nat)), vs = [.ref d, v] ∧ DiceAt H d c ∧ PartsAt H v dd ws ∧ OffOk dd ws ∧ ∀ v' M H', Kp [d] H H' → DiceAt H' d c → M.Ok → M.d = dd → M.ws = ws → MadeAt H' v' M → Q v' H'
def sp_law_machine (CO CM : Addr) : Sp := fun vs H Q _ => ∃ (o : Addr) (v : V) (M : Mach), vs = [.ref o, v] ∧ OffAt K CO H o M.d M.ws ∧ MadeAt H v M ∧ M.Ok ∧ ∀ p H', Kp [] H H' → MachAt K CM H' p o M → Q (.ref p) H'
def sp_law_moved : Sp := fun vs H Q _ => ∃ (v1 v2 v3 : V) (M : Mach) (ns : List Nat) (i : Nat), vs = [v1, v2, v3, .int (i : Int)] ∧ PartsAt H v1 M.d M.ws ∧ MadeAt H v2 M ∧ M.Ok ∧ T1 H v3 ns ∧ Fit M.many ns ∧ i < M.ws.length ∧ ∀ v' H', Kp [] H H' → T1 H' v' (M.next ns i) → Q v' H'
def sp_law_met : Sp := fun vs H Q _ => ∃ (v1 v2 : V) (M : Mach) (n : Nat) (order : List (List Nat)), vs = [v1, v2] ∧ PartsAt H v1 M.d M.ws ∧ MadeAt H v2 M ∧ M.Ok ∧ Met (sysM M) (FewM (Fit M.many)) n 0 [M.first] order ∧ ∀ l H', Kp [] H H' → H l = none → LT H' l order → Q (.ref l) H'
def BkV (H : Hp) (v : V) (tel : List Nat) (steps : List (List Nat)) : Prop := ∃ a v1 v2, v = .ref a ∧ H a = some (.tup [v1, v2]) ∧ T1 H v1 tel ∧ T2 H v2 steps
def sp_law_joined : Sp := fun vs H Q _ => ∃ (v1 v2 : V) (M : Mach) (n : Nat) (order : List (List Nat)), vs = [v1, v2] ∧ PartsAt H v1 M.d M.ws ∧ MadeAt H v2 M ∧ M.Ok ∧ Met (sysM M) (FewM (Fit M.many)) n 0 [M.first] order ∧ StepsOk M.ws.length (telOf M order) (stepsOf M order) ∧
  ∀ v H', Kp [] H H' → BkV H' v (telOf M order) (stepsOf M order) → Q v H'
def sp_law_some_book : Sp := fun vs H Q _ => ∃ (d c : Addr) (v1 v2 : V) (M : Mach) (n : Nat) (order : List (List Nat)), vs = [.ref d, v1, v2] ∧ DiceAt H d c ∧ PartsAt H v1 M.d M.ws ∧ MadeAt H v2 M ∧ M.Ok ∧ Met (sysM M) (FewM (Fit M.many)) n 0 [M.first] order ∧ StepsOk M.ws.length (telOf M order) (stepsOf M order) ∧
  ∀ v tel steps H', Kp [d] H H' → DiceAt H' d c → BkV H' v tel steps → StepsOk M.ws.length tel steps → tel.length ≤ 12 → Q v H'
def sp_law_wrong : Sp := fun vs H Q _ => ∃ (v1 v2 v3 v4 : V) (M : Mach) (tel : List Nat) (steps : List (List Nat)) (n : Nat) (res : Option (List Nat)), vs = [v1, v2, v3, v4] ∧ PartsAt H v1 M.d M.ws ∧ MadeAt H v2 M ∧ M.Ok ∧ T1 H v3 tel ∧ T2 H v4 steps ∧ StepsOk M.ws.length tel steps ∧
  Bfs (sysB tel steps M) (Few (okB tel M)) n [(0, M.first)] [([], (0, M.first))] res ∧ ∀ v H', Kp [] H H' → RowV H' v res → Q v H'
def sp_law : Sp := fun vs H Q _ => ∃ (a : Addr) (ns : List Int), vs = [.ref a] ∧ SqL K H a (ns.map V.int) ∧ ns.length ≤ 63 ∧ ∀ H', Q (.bl true) H'
end
end LW
namespace LW
open PySem PySem.Spec PyProof.Rows L2 RZ
theorem bl_list : ∀ {ys : List V}, (∀ (i : Nat) y, ys[i]? = some y → y = V.bl true) → ys = (List.replicate ys.length true).map V.bl
  | [], _ => rfl
  | y :: ys, h => by
    have e := h 0 y rfl
    subst e
    rw [List.length_cons, List.replicate_succ, List.map_cons, ← bl_list fun i z q => h (i + 1) z (by simpa using q)]
theorem all_rep (n : Nat) : (List.replicate n true).all id = true := by
  induction n with
  | zero => rfl
  | succ n ih => rw [List.replicate_succ, List.all_cons, ih]; rfl
theorem size_lt {n : Nat} (h : n ≤ 1000000) : n < sizeLine := Nat.lt_of_le_of_lt h (by decide)
theorem size_le {n : Nat} (h : n ≤ 1000000) : n ≤ sizeLine := Nat.le_of_lt (size_lt h)
section
variable {K : PySem.W.Frag} {J : It} {n : Nat} {G : Hp → Prop} {Y : Nat → Hp → V → Hp → Prop}
/-- [..] over what wi walks: a fact R per item -/
theorem t_lc {wi : TI} (w : Walk J n G Y) {ch : List Addr} {g : TG} {te : TE} {vs : List Nat} {σ : FT} {H H1 : Hp} {Q : VK} (hi : ∀ R : It → Hp → Prop, R J H1 → wi σ H R) (R : Addr → Nat → V → Hp → Prop) (hch : ∀ c ∈ ch, H1 c ≠ none) (hn : n ≤ 1000000) (hG : ∀ H, Kp ch H1 H → G H)
    (yk : ∀ i H x H', Y i H x H' → Kp ch H H') (stab : ∀ D i y H H', Kp (D :: ch) H H' → R D i y H → R D i y H')
    (turn : ∀ D i x H H' (Q' : VK), H1 D = none → i < n → Kp ch H1 H → Y i H x H' → (∀ y H2, Kp ch H' H2 → R D i y H2 → Q' y H2) → g x (wipe σ vs) H' fun σ2 H2 => wipe σ2 vs = wipe σ vs ∧ te σ2 H2 Q')
    (done : ∀ D ys H, H1 D = none → Kp ch H1 H → H D = some (.lst ys) → ys.length = n → (∀ (i : Nat) y, ys[i]? = some y → R D i y H) → Q (.ref D) H) : tLc wi g tYes te vs σ H Q :=
  hi _ (lc_keep w R hch (size_lt hn) hG stab turn yk done)
/-- all([..]), every item True -/
theorem t_all {wi : TI} (w : Walk J n G Y) {ch : List Addr} {g : TG} {te : TE} {vs : List Nat} {σ : FT} {H H1 : Hp} {Q : VK} (hi : ∀ R : It → Hp → Prop, R J H1 → wi σ H R) (hch : ∀ c ∈ ch, H1 c ≠ none) (hn : n ≤ 1000000) (hG : ∀ H, Kp ch H1 H → G H)
    (yk : ∀ i H x H', Y i H x H' → Kp ch H H')
    (turn : ∀ i x H H' (Q' : VK), i < n → Kp ch H1 H → Y i H x H' → (∀ H2, Kp ch H' H2 → Q' (.bl true) H2) → g x (wipe σ vs) H' fun σ2 H2 => wipe σ2 vs = wipe σ vs ∧ te σ2 H2 Q')
    (done : ∀ H, Kp ch H1 H → Q (.bl true) H) : tCB (rAll K) (tCons (tLc wi g tYes te vs) tNil) σ H Q := by
  refine t_lc (Q := fun v H => rAll K [v] H Q) w (ch := ch) hi (fun _ _ y _ => y = .bl true) hch hn hG yk (fun _ _ _ _ _ _ e => e) (fun D i x H H' Q' _ hi k hy q => turn i x H H' Q' hi k hy fun H2 k2 => q _ H2 k2 rfl) ?_
  intro D ys H _ k hD hl hR
  refine ⟨D, List.replicate ys.length true, rfl, SqL.of ?_, ?_⟩
  · rw [← bl_list hR]
    exact hD
  · rw [all_rep]
    exact done H k
end
section
variable {K : PySem.W.Frag} {J : It} {n : Nat} {G : Hp → Prop} {Y : Nat → Hp → V → Hp → Prop}
/-- [.. if ..]: what is known of the list so far is W -/
theorem t_lcW {wi : TI} (w : Walk J n G Y) {ch : List Addr} {g : TG} {tt : TT} {te : TE} {vs : List Nat} {σ : FT} {H H1 : Hp} {Q : VK} (hi : ∀ R : It → Hp → Prop, R J H1 → wi σ H R) (W : Nat → List V → Hp → Prop) (hch : ∀ c ∈ ch, H1 c ≠ none) (hn : n ≤ 1000000) (hG : ∀ H, Kp ch H1 H → G H)
    (h0 : ∀ D, H1 D = none → W 0 [] (upd H1 D (.lst [])))
    (turn : ∀ D i x H H' ys (QT : VK) (QF : Hp → Prop), H1 D = none → i < n → Kp ch H1 H → H D = some (.lst ys) → W i ys H → Y i H x H' → (∀ y H4, Kp ch H H4 → W (i + 1) (ys ++ [y]) (upd H4 D (.lst (ys ++ [y]))) → QT y H4) → (∀ H3, Kp ch H H3 → W (i + 1) ys H3 → QF H3) →
      g x (wipe σ vs) H' fun σ2 H2 => wipe σ2 vs = wipe σ vs ∧ tt σ2 H2 fun b H3 => if b = true then te σ2 H3 QT else QF H3)
    (done : ∀ D ys H, H1 D = none → Kp ch H1 H → H D = some (.lst ys) → ys.length ≤ n → W n ys H → Q (.ref D) H) : tLc wi g tt te vs σ H Q := by
  refine hi _ fun D hD => ?_
  have nD : D ∉ ch := fun m => hch D m hD
  refine lc_it w (fun i H => Kp ch H1 H ∧ ∃ ys, H D = some (.lst ys) ∧ ys.length ≤ i ∧ W i ys H) ⟨Kp.new hD, [], upd_same, Nat.le_refl _, h0 D hD⟩ (fun i H _ h => hG H h.1) ?_ ?_
  · rintro i x H H' hi ⟨k1, ys, hy, hl, hW⟩ hx
    refine turn D i x H H' ys _ _ hD hi k1 hy hW hx (fun y H4 q1 q2 => ?_) (fun H3 q1 q2 => ?_)
    · exact ⟨ys, q1.at hy nD, size_lt (by omega), (k1.trans q1).mut hD, ys ++ [y], upd_same, by rw [List.length_append]; exact Nat.add_le_add_right hl 1, q2⟩
    · exact ⟨k1.trans q1, ys, q1.at hy nD, Nat.le_succ_of_le hl, q2⟩
  · rintro H ⟨k, ys, hy, hl, hW⟩
    exact done D ys H hD k hy hl hW
/-- tuple([..]): a fact of each item that only tuples bear -/
theorem t_tupR {wi : TI} (w : Walk J n G Y) {ch : List Addr} {g : TG} {te : TE} {vs : List Nat} {σ : FT} {H H1 : Hp} {Q : VK} (hi : ∀ R : It → Hp → Prop, R J H1 → wi σ H R) (R : Nat → V → Hp → Prop) (hch : ∀ c ∈ ch, H1 c ≠ none) (hn : n ≤ 1000000) (hG : ∀ H, Kp ch H1 H → G H)
    (yk : ∀ i H x H', Y i H x H' → Kp ch H H') (stab : ∀ i y H H', Tk H H' → R i y H → R i y H')
    (turn : ∀ i x H H' (Q' : VK), i < n → Kp ch H1 H → Y i H x H' → (∀ y H2, Kp ch H' H2 → R i y H2 → Q' y H2) → g x (wipe σ vs) H' fun σ2 H2 => wipe σ2 vs = wipe σ vs ∧ te σ2 H2 Q')
    (done : ∀ p ys H, Kp ch H1 H → H p = some (.tup ys) → ys.length = n → (∀ (i : Nat) y, ys[i]? = some y → R i y H) → Q (.ref p) H) : tCB (kTup K) (tCons (tLc wi g tYes te vs) tNil) σ H Q := by
  refine t_lc (Q := fun v H => kTup K [v] H Q) w (ch := ch) hi (fun _ => R) hch hn hG yk (fun _ i y H H' k => stab i y H H' k.tk) (fun D i x H H' Q' _ hi k hy q => turn i x H H' Q' hi k hy q) ?_
  intro D ys H _ k hD hl hR
  refine ⟨D, ys, rfl, .inl ⟨SqL.of hD, fun l hn => done l ys _ (k.new' hn) upd_same hl fun i y e => stab i y H _ (Kp.new (ch := []) hn).tk (hR i y e)⟩⟩
/-- tuple([..]) of numbers -/
theorem t_tup1 {wi : TI} (w : Walk J n G Y) {ch : List Addr} {g : TG} {te : TE} {vs : List Nat} {σ : FT} {H H1 : Hp} {Q : VK} (hi : ∀ R : It → Hp → Prop, R J H1 → wi σ H R) (ns : List Nat) (hl : ns.length = n) (hch : ∀ c ∈ ch, H1 c ≠ none) (hn : n ≤ 1000000) (hG : ∀ H, Kp ch H1 H → G H)
    (yk : ∀ i H x H', Y i H x H' → Kp ch H H')
    (turn : ∀ i m x H H' (Q' : VK), i < n → ns[i]? = some m → Kp ch H1 H → Y i H x H' → (∀ H2, Kp ch H' H2 → Q' (.int (m : Nat)) H2) → g x (wipe σ vs) H' fun σ2 H2 => wipe σ2 vs = wipe σ vs ∧ te σ2 H2 Q')
    (done : ∀ v H, Kp ch H1 H → T1 H v ns → Q v H) : tCB (kTup K) (tCons (tLc wi g tYes te vs) tNil) σ H Q := by
  refine t_tupR w (ch := ch) hi (fun i y _ => ∀ m, ns[i]? = some m → y = .int (m : Nat)) hch hn hG yk (fun _ _ _ _ _ e => e) (fun i x H H' Q' hi k hy q => ?_) ?_
  · have h1 : i < ns.length := by omega
    refine turn i ns[i] x H H' Q' hi (List.getElem?_eq_getElem h1) k hy fun H2 k2 => q _ H2 k2 fun m e => ?_
    rw [List.getElem?_eq_getElem h1] at e
    injection e with e
    rw [e]
  · intro p ys H k hp hy hR
    refine done _ H k ⟨p, rfl, ?_⟩
    rw [hp, vz_eq (by omega) fun i v n e1 e2 => hR i v e1 n e2]
end
/-- items in their places, nothing changed -/
theorem yk_at {ch : List Addr} {xs : List V} (i : Nat) (H : Hp) (x : V) (H' : Hp) (h : YAt xs i H x H') : Kp ch H H' := h.1 ▸ Kp.refl
theorem yk_fn {ch : List Addr} {f : Nat → V} (i : Nat) (H : Hp) (x : V) (H' : Hp) (h : YFn f i H x H') : Kp ch H H' := h.1 ▸ Kp.refl
theorem yk_pair {ch : List Addr} {f g : Nat → Option V} (i : Nat) (H : Hp) (x : V) (H' : Hp) (h : YPair f g i H x H') : Kp ch H H' := by
  obtain ⟨T, a, b, _, hT, e, _⟩ := h
  rw [e]
  exact Kp.new hT
theorem qv {Q : VK} {v v' : V} {H : Hp} (h : Q v H) (e : v' = v) : Q v' H := e ▸ h
theorem yk_pairs {ch : List Addr} {f g : Nat → Option V} (i : Nat) (H : Hp) (x : V) (H' : Hp) (h : YPair f g i H x H') : Kp ch H H' := yk_pair i H x H' h
theorem no_ch {H : Hp} : ∀ c ∈ ([] : List Addr), H c ≠ none := fun _ z => nomatch z
/-! ### the outermost layer of a reading -/
section
variable {D : Ends} {σ : FT} {H : Hp} {te : TE} {t u : TS} {tt : TT} {i : Nat}
theorem r_nx (h : D.nx σ H) : tNext D σ H := h
theorem r_ret (h : te σ H D.rt) : tRet te D σ H := h
theorem r_seq (h : t { D with nx := u D } σ H) : tSeq t u D σ H := h
theorem r_if (h : tt σ H fun b H1 => if b = true then t D σ H1 else u D σ H1) : tIfS tt t u D σ H := h
theorem r_set (h : te σ H fun x H1 => D.nx (σ.set i (some x)) H1) : tAsg te (gName i) D σ H := h
theorem r_drop (h : te σ H fun _ H1 => D.nx σ H1) : tDrop te D σ H := h
end
end LW
namespace LW
open PySem PySem.Spec PyProof.Rows L2 RZ
theorem getD_of {α : Type} {l : List α} {i : Nat} {x d : α} (h : l[i]? = some x) : l.getD i d = x := by rw [List.getD_eq_getElem?_getD, h]; rfl
theorem get_of {α : Type} {l : List α} {i : Nat} {d : α} (h : i < l.length) : l[i]? = some (l.getD i d) := by rw [List.getD_eq_getElem?_getD, List.getElem?_eq_getElem h]; rfl
/-! ### tuples of numbers as plain data -/
def dI (n : Nat) : PyData := .int (n : Int)
def dT (ns : List Nat) : PyData := .tuple (ns.map dI)
def dTT (l : List (List Nat)) : PyData := .tuple (l.map dT)
theorem can_I : ∀ ns : List Nat, PyData.canLayAll0 (ns.map dI) = true
  | [] => by simp [PyData.canLayAll0]
  | n :: ns => by rw [List.map_cons, PyData.canLayAll0, can_I ns]; simp [dI, PyData.canLay0]
theorem can_T : ∀ l : List (List Nat), PyData.canLayAll0 (l.map dT) = true
  | [] => by simp [PyData.canLayAll0]
  | n :: ns => by rw [List.map_cons, PyData.canLayAll0, can_T ns]; simp [dT, PyData.canLay0, can_I]
theorem dep_I : ∀ ns : List Nat, PyData.depthAll (ns.map dI) = 0
  | [] => by simp [PyData.depthAll]
  | n :: ns => by rw [List.map_cons, PyData.depthAll, dep_I ns]; simp [dI, PyData.depth]
theorem dep_T : ∀ l : List (List Nat), PyData.depthAll (l.map dT) ≤ 1
  | [] => by simp [PyData.depthAll]
  | n :: ns => by rw [List.map_cons, PyData.depthAll]; have := dep_T ns; simp [dT, PyData.depth, dep_I]; omega
theorem sh_T (ns : List Nat) : SeqAt.shaped (dT ns) = true := by
  unfold SeqAt.shaped dT
  simp [PyData.canLay0, can_I, PyData.depth, dep_I]
theorem sh_TT (l : List (List Nat)) : SeqAt.shaped (dTT l) = true := by
  unfold SeqAt.shaped dTT
  have := dep_T l
  simp [PyData.canLay0, can_T, PyData.depth]
  omega
theorem sh_LT (l : List (List Nat)) : SeqAt.shaped (.list (l.map dT)) = true := by
  unfold SeqAt.shaped
  have := dep_T l
  simp [PyData.canLay0, can_T, PyData.depth]
  omega
theorem eqv_I : ∀ ns ms : List Nat, PyData.eqvAll (ns.map dI) (ms.map dI) = decide (ns = ms)
  | [], [] => by simp [PyData.eqvAll]
  | [], _ :: _ => by simp [PyData.eqvAll]
  | _ :: _, [] => by simp [PyData.eqvAll]
  | n :: ns, m :: ms => by
    rw [List.map_cons, List.map_cons, PyData.eqvAll, eqv_I ns ms]
    simp only [dI, PyData.eqv]
    rw [Bool.eq_iff_iff]
    simp
    intro _
    omega
theorem eqv_T (ns ms : List Nat) : PyData.eqv (dT ns) (dT ms) = decide (ns = ms) := by
  unfold dT
  rw [PyData.eqv, eqv_I]
theorem eqv_TT (l : List (List Nat)) : PyData.eqv (dTT l) (dTT l) = true := SeqAt.eqv_refl _ (SeqAt.canLay_of_shaped (sh_TT l))
theorem any_T (l : List (List Nat)) (k : List Nat) : ((l.map dT).any fun z => PyData.eqv z (dT k)) = decide (k ∈ l) := by
  rw [Bool.eq_iff_iff]
  simp [List.any_eq_true, eqv_T]
section
variable {K : PySem.W.Frag} {H : Hp}
theorem dp_I : ∀ ns : List Nat, DpAll K H (vz ns) (ns.map dI)
  | [] => .nil
  | n :: ns => .cons (.int _) (dp_I ns)
theorem T1.dp {v : V} {ns : List Nat} (h : T1 H v ns) : Dp K H v (dT ns) := by
  obtain ⟨a, rfl, ha⟩ := h
  exact .tup (SqT.of ha) (dp_I ns)
theorem dp_T : ∀ {vs : List V} {l : List (List Nat)}, vs.length = l.length → (∀ (i : Nat) x y, vs[i]? = some x → l[i]? = some y → T1 H x y) → DpAll K H vs (l.map dT)
  | [], [], _, _ => .nil
  | [], _ :: _, e, _ => by cases e
  | _ :: _, [], e, _ => by cases e
  | v :: vs, n :: l, e, h => .cons (h 0 v n rfl rfl).dp (dp_T (by simpa using e) fun i x y e1 e2 => h (i + 1) x y (by simpa using e1) (by simpa using e2))
theorem T2.dp {v : V} {l : List (List Nat)} (h : T2 H v l) : Dp K H v (dTT l) := by
  obtain ⟨a, vs, rfl, ha, hl, hx⟩ := h
  exact .tup (SqT.of ha) (dp_T hl hx)
theorem LT.dp {a : Addr} {l : List (List Nat)} (h : LT H a l) : Dp K H (.ref a) (.list (l.map dT)) := by
  obtain ⟨vs, ha, hl, hx⟩ := h
  exact .lst (SqL.of ha) (dp_T hl hx)
end
theorem bools : ∀ {ys : List V}, (∀ (i : Nat) y, ys[i]? = some y → ∃ b, y = V.bl b) → ∃ bs : List Bool, ys = bs.map V.bl
  | [], _ => ⟨[], rfl⟩
  | y :: ys, h => by
    obtain ⟨b, e⟩ := h 0 y rfl
    obtain ⟨bs, e2⟩ := bools (ys := ys) fun i z q => h (i + 1) z (by simpa using q)
    exact ⟨b :: bs, by rw [e, e2]; rfl⟩
section
variable {K : PySem.W.Frag} {J : It} {n : Nat} {G : Hp → Prop} {Y : Nat → Hp → V → Hp → Prop}
/-- any([..]), nothing known -/
theorem t_anyB {wi : TI} (w : Walk J n G Y) {ch : List Addr} {g : TG} {te : TE} {vs : List Nat} {σ : FT} {H H1 : Hp} {Q : VK} (hi : ∀ R : It → Hp → Prop, R J H1 → wi σ H R) (hch : ∀ c ∈ ch, H1 c ≠ none) (hn : n ≤ 1000000) (hG : ∀ H, Kp ch H1 H → G H)
    (yk : ∀ i H x H', Y i H x H' → Kp ch H H')
    (turn : ∀ i x H H' (Q' : VK), i < n → Kp ch H1 H → Y i H x H' → (∀ b H2, Kp ch H' H2 → Q' (.bl b) H2) → g x (wipe σ vs) H' fun σ2 H2 => wipe σ2 vs = wipe σ vs ∧ te σ2 H2 Q')
    (done : ∀ b H, Kp ch H1 H → Q (.bl b) H) : tCB (rAny K) (tCons (tLc wi g tYes te vs) tNil) σ H Q := by
  refine t_lc (Q := fun v H => rAny K [v] H Q) w (ch := ch) hi (fun _ _ y _ => ∃ b, y = .bl b) hch hn hG yk (fun _ _ _ _ _ _ e => e) (fun D i x H H' Q' _ hi k hy q => turn i x H H' Q' hi k hy fun b H2 k2 => q _ H2 k2 ⟨b, rfl⟩) ?_
  intro D ys H _ k hD hl hR
  obtain ⟨bs, rfl⟩ := bools hR
  exact ⟨D, bs, rfl, SqL.of hD, done _ H k⟩
end
section
variable {K : PySem.W.Frag} {J : It} {n : Nat} {G : Hp → Prop} {Y : Nat → Hp → V → Hp → Prop}
/-- tuple([.. if ..]) -/
theorem t_tupW {wi : TI} (w : Walk J n G Y) {ch : List Addr} {g : TG} {tt : TT} {te : TE} {vs : List Nat} {σ : FT} {H H1 : Hp} {Q : VK} (hi : ∀ R : It → Hp → Prop, R J H1 → wi σ H R) (W : Nat → List V → Hp → Prop) (hch : ∀ c ∈ ch, H1 c ≠ none) (hn : n ≤ 1000000) (hG : ∀ H, Kp ch H1 H → G H)
    (h0 : ∀ D, H1 D = none → W 0 [] (upd H1 D (.lst [])))
    (turn : ∀ D i x H H' ys (QT : VK) (QF : Hp → Prop), H1 D = none → i < n → Kp ch H1 H → H D = some (.lst ys) → W i ys H → Y i H x H' → (∀ y H4, Kp ch H H4 → W (i + 1) (ys ++ [y]) (upd H4 D (.lst (ys ++ [y]))) → QT y H4) → (∀ H3, Kp ch H H3 → W (i + 1) ys H3 → QF H3) →
      g x (wipe σ vs) H' fun σ2 H2 => wipe σ2 vs = wipe σ vs ∧ tt σ2 H2 fun b H3 => if b = true then te σ2 H3 QT else QF H3)
    (done : ∀ D ys H p, H1 D = none → Kp ch H1 H → H D = some (.lst ys) → ys.length ≤ n → W n ys H → H p = none → Q (.ref p) (upd H p (.tup ys))) : tCB (kTup K) (tCons (tLc wi g tt te vs) tNil) σ H Q := by
  refine t_lcW (Q := fun v H => kTup K [v] H Q) w (ch := ch) hi W hch hn hG h0 turn ?_
  intro D ys H hD k hy hl hW
  exact ⟨D, ys, rfl, .inl ⟨SqL.of hy, fun p hp => done D ys H p hD k hy hl hW hp⟩⟩
end
theorem len_putF (f : Str) (v : V) : ∀ fs : List (Str × V), (putF f v fs).length ≤ fs.length + 1
  | [] => Nat.le_refl _
  | (g, x) :: r => by
    unfold putF
    by_cases e : g = f
    · rw [if_pos e]; simp
    · rw [if_neg e]; have := len_putF f v r; simp; omega
theorem ne_of2 {H : Hp} {a b : Addr} {o : HO} (h : H a = some o) (n : H b = none) : a ≠ b := fun e => by rw [e, n] at h; cases h
theorem ite2 {b : Bool} {A B : Prop} (h1 : A) (h2 : B) : if b = true then A else B := by cases b; exact iteF h2; exact iteT h1
theorem step1_lt {nw s w : Nat} {tel : List Nat} {steps : List (List Nat)} (ok : StepsOk nw tel steps) (hs : s < tel.length) (hw : w < nw) : step1 steps s w < tel.length := by
  have h1 : s < steps.length := by rw [ok.len]; exact hs
  have h2 := ok.each _ (List.getElem_mem h1)
  have h3 : w < steps[s].length := by rw [h2.1]; exact hw
  unfold step1
  rw [List.getD_eq_getElem?_getD (l := steps), List.getElem?_eq_getElem h1, Option.getD_some, List.getD_eq_getElem?_getD, List.getElem?_eq_getElem h3, Option.getD_some]
  exact h2.2 _ (List.getElem_mem h3)
theorem step1_at {nw s w : Nat} {tel : List Nat} {steps : List (List Nat)} (ok : StepsOk nw tel steps) (hs : s < tel.length) (hw : w < nw) : ∃ gs, steps[s]? = some gs ∧ gs[w]? = some (step1 steps s w) ∧ gs.length = nw := by
  have h1 : s < steps.length := by rw [ok.len]; exact hs
  have h2 := ok.each _ (List.getElem_mem h1)
  have h3 : w < steps[s].length := by rw [h2.1]; exact hw
  refine ⟨steps[s], List.getElem?_eq_getElem h1, ?_, h2.1⟩
  unfold step1
  rw [List.getD_eq_getElem?_getD (l := steps), List.getElem?_eq_getElem h1, Option.getD_some]
  exact get_of h3
theorem stood_snoc (steps : List (List Nat)) (s : Nat) (r : List Nat) (w : Nat) : stoodM steps s (r ++ [w]) = step1 steps (stoodM steps s r) w := by
  unfold stoodM
  rw [List.foldl_append]
  rfl
theorem stood_lt {nw : Nat} {tel : List Nat} {steps : List (List Nat)} (ok : StepsOk nw tel steps) : ∀ (row : List Nat) {s : Nat}, s < tel.length → (∀ i ∈ row, i < nw) → stoodM steps s row < tel.length
  | [], _, hs, _ => hs
  | w :: row, _, hs, hr => stood_lt ok row (step1_lt ok hs (hr w List.mem_cons_self)) fun i hi => hr i (List.mem_cons_of_mem _ hi)
theorem flat_vz (ns : List Nat) : (vz ns).all flatV = true := by
  unfold vz
  rw [List.all_map]
  exact List.all_eq_true.mpr fun _ _ => rfl
end LW
namespace LW
theorem rep_zero : ∀ n : Nat, (List.replicate n [L2.V.int 0]).flatten = vz (List.replicate n 0)
  | 0 => rfl
  | n + 1 => by rw [List.replicate_succ, List.flatten_cons, rep_zero n, List.replicate_succ]; rfl
/-! ### all notes -/
theorem fit_nil {ns : List Nat} (h : Fit [] ns) : ns = [] := List.length_eq_zero_iff.mp h.1
theorem fit_cons {m : Nat} {many : List Nat} {a : Nat} {ns : List Nat} : Fit (m :: many) (a :: ns) ↔ a < m ∧ Fit many ns := by
  constructor
  · rintro ⟨h1, h2⟩
    exact ⟨h2 0 a m rfl rfl, by simpa using h1, fun i x y e1 e2 => h2 (i + 1) x y (by simpa using e1) (by simpa using e2)⟩
  · rintro ⟨h0, h1, h2⟩
    refine ⟨by simpa using h1, fun i x y e1 e2 => ?_⟩
    cases i with
    | zero =>
      simp at e1 e2
      omega
    | succ i => exact h2 i x y (by simpa using e1) (by simpa using e2)
theorem fit_inv {m : Nat} {many ns : List Nat} (h : Fit (m :: many) ns) : ∃ a r, ns = a :: r ∧ a < m ∧ Fit many r := by
  cases ns with
  | nil => cases h.1
  | cons a r => exact ⟨a, r, rfl, fit_cons.mp h⟩
theorem mem_longer {found : List (List Nat)} {n : Nat} {ns : List Nat} : ns ∈ longer found n ↔ ∃ a x, a ∈ found ∧ x < n ∧ ns = a ++ [x] := by
  unfold longer
  simp only [List.mem_flatMap, List.mem_map, List.mem_range]
  constructor
  · rintro ⟨a, ha, x, hx, e⟩; exact ⟨a, x, ha, hx, e.symm⟩
  · rintro ⟨a, x, ha, hx, e⟩; exact ⟨a, ha, x, hx, e.symm⟩
theorem mem_fold : ∀ (many : List Nat) (found : List (List Nat)) (ns : List Nat), ns ∈ many.foldl longer found ↔ ∃ a b, a ∈ found ∧ Fit many b ∧ ns = a ++ b
  | [], found, ns => by
    constructor
    · intro h; exact ⟨ns, [], h, ⟨rfl, fun i x y e => by simp at e⟩, by simp⟩
    · rintro ⟨a, b, ha, hb, rfl⟩; rw [fit_nil hb, List.append_nil]; exact ha
  | m :: many, found, ns => by
    rw [List.foldl_cons, mem_fold many]
    constructor
    · rintro ⟨a, b, ha, hb, rfl⟩
      obtain ⟨c, x, hc, hx, rfl⟩ := mem_longer.mp ha
      exact ⟨c, x :: b, hc, fit_cons.mpr ⟨hx, hb⟩, by simp⟩
    · rintro ⟨a, b, ha, hb, rfl⟩
      obtain ⟨x, r, rfl, hx, hr⟩ := fit_inv hb
      exact ⟨a ++ [x], r, mem_longer.mpr ⟨a, x, ha, hx, rfl⟩, hr, by simp⟩
theorem mem_allN {many ns : List Nat} : ns ∈ allN many ↔ Fit many ns := by
  unfold allN
  rw [mem_fold]
  constructor
  · rintro ⟨a, b, ha, hb, rfl⟩
    simp at ha
    subst ha
    simpa using hb
  · intro h; exact ⟨[], ns, by simp, h, rfl⟩
theorem len_longer : ∀ (found : List (List Nat)) (n : Nat), (longer found n).length = found.length * n
  | [], n => by simp [longer]
  | a :: r, n => by
    have := len_longer r n
    unfold longer at *
    rw [List.flatMap_cons, List.length_append, this]
    simp [Nat.succ_mul, Nat.add_comm]
theorem len_fold : ∀ (many : List Nat) (found : List (List Nat)), (many.foldl longer found).length = many.foldl (fun a b => a * b) found.length
  | [], _ => rfl
  | m :: many, found => by rw [List.foldl_cons, List.foldl_cons, len_fold many, len_longer]
theorem len_allN (many : List Nat) : (allN many).length = prod many := len_fold many [[]]
theorem nodup_longer {found : List (List Nat)} (n : Nat) (h : found.Nodup) : (longer found n).Nodup := by
  induction found with
  | nil => simp [longer]
  | cons a r ih =>
    rw [List.nodup_cons] at h
    have h2 := ih h.2
    unfold longer at *
    rw [List.flatMap_cons, List.nodup_append]
    refine ⟨?_, h2, ?_⟩
    · rw [List.Nodup, List.pairwise_map]
      exact List.nodup_range.imp fun hne e => hne (by simpa using e)
    · intro x hx y hy e
      subst e
      simp only [List.mem_map, List.mem_range] at hx
      obtain ⟨k, _, rfl⟩ := hx
      simp only [List.mem_flatMap, List.mem_map, List.mem_range] at hy
      obtain ⟨b, hb, z, hz, e⟩ := hy
      have := List.append_inj_left' e rfl
      subst this
      exact h.1 hb
theorem nodup_fold : ∀ (many : List Nat) {found : List (List Nat)}, found.Nodup → (many.foldl longer found).Nodup
  | [], _, h => h
  | m :: many, _, h => by rw [List.foldl_cons]; exact nodup_fold many (nodup_longer m h)
theorem nodup_allN (many : List Nat) : (allN many).Nodup := nodup_fold many (by simp)
/-! ### their hashes -/
def hN (ns : List Nat) : Int := hashNs (iz ns)
def injOn (l : List (List Nat)) : Bool := l.all fun a => l.all fun b => decide (hN a = hN b → a = b)
theorem inj1 : injOn (allN [6]) = true := by decide +kernel
theorem inj2 : injOn (allN [6, 6]) = true := by decide +kernel
theorem inj3 : injOn (allN [3, 3, 3]) = true := by decide +kernel
theorem inj4 : injOn (allN [2, 2, 2, 2]) = true := by decide +kernel
theorem injOn_at {l : List (List Nat)} (h : injOn l = true) {a b : List Nat} (ha : a ∈ l) (hb : b ∈ l) (e : hN a = hN b) : a = b := by
  unfold injOn at h
  exact of_decide_eq_true (List.all_eq_true.mp (List.all_eq_true.mp h a ha) b hb) e
theorem hash_nodup {many box : List Nat} (hb : injOn (allN box) = true) (h : ∀ ns, Fit many ns → Fit box ns) : (((allN many).map iz).map hashNs).Nodup := by
  rw [List.map_map, List.Nodup, List.pairwise_map]
  refine (List.Pairwise.and_mem.mp (nodup_allN many)).imp ?_
  rintro a b ⟨ha, hb', hne⟩ e
  exact hne (injOn_at hb (mem_allN.mpr (h a (mem_allN.mp ha))) (mem_allN.mpr (h b (mem_allN.mp hb'))) e)
theorem fit_le {many box ns : List Nat} (hl : many.length = box.length) (h : ∀ (i m b : Nat), many[i]? = some m → box[i]? = some b → m ≤ b) (f : Fit many ns) : Fit box ns := by
  refine ⟨f.1.trans hl, fun i a b e1 e2 => ?_⟩
  have h1 := (List.getElem?_eq_some_iff.mp e2).1
  have e3 : many[i]? = some many[i] := List.getElem?_eq_getElem (by omega)
  exact Nat.lt_of_lt_of_le (f.2 i a _ e1 e3) (h i _ b e3 e2)
theorem box_le {many : List Nat} {k c : Nat} (hl : many.length = k) (h : ∀ m ∈ many, m ≤ c) {ns : List Nat} (f : Fit many ns) : Fit (List.replicate k c) ns := by
  refine fit_le (by simp [hl]) (fun i m b e1 e2 => ?_) f
  have h2 := List.mem_of_getElem? e2
  rw [List.mem_replicate] at h2
  rw [h2.2]
  exact h m (List.mem_of_getElem? e1)
/-- few enough -/
structure Sm (many : List Nat) : Prop where
  one : 1 ≤ many.length
  few : (many.length ≤ 2 ∧ ∀ m ∈ many, m ≤ 6) ∨ (many.length ≤ 3 ∧ ∀ m ∈ many, m ≤ 3) ∨ (many.length ≤ 4 ∧ ∀ m ∈ many, m ≤ 2)
theorem Sm.cases {many : List Nat} (h : Sm many) : (many.length = 1 ∧ ∀ m ∈ many, m ≤ 6) ∨ (many.length = 2 ∧ ∀ m ∈ many, m ≤ 6) ∨ (many.length = 3 ∧ ∀ m ∈ many, m ≤ 3) ∨ (many.length = 4 ∧ ∀ m ∈ many, m ≤ 2) := by
  have h1 := h.one
  rcases h.few with ⟨a, b⟩ | ⟨a, b⟩ | ⟨a, b⟩
  · by_cases e : many.length = 1
    · exact .inl ⟨e, b⟩
    · exact .inr (.inl ⟨by omega, b⟩)
  · have b6 : ∀ m ∈ many, m ≤ 6 := fun m hm => Nat.le_trans (b m hm) (by decide)
    by_cases e : many.length = 1
    · exact .inl ⟨e, b6⟩
    · by_cases e2 : many.length = 2
      · exact .inr (.inl ⟨e2, b6⟩)
      · exact .inr (.inr (.inl ⟨by omega, b⟩))
  · have b6 : ∀ m ∈ many, m ≤ 6 := fun m hm => Nat.le_trans (b m hm) (by decide)
    have b3 : ∀ m ∈ many, m ≤ 3 := fun m hm => Nat.le_trans (b m hm) (by decide)
    by_cases e : many.length = 1
    · exact .inl ⟨e, b6⟩
    · by_cases e2 : many.length = 2
      · exact .inr (.inl ⟨e2, b6⟩)
      · by_cases e3 : many.length = 3
        · exact .inr (.inr (.inl ⟨e3, b3⟩))
        · exact .inr (.inr (.inr ⟨by omega, b⟩))
theorem Sm.hash {many : List Nat} (h : Sm many) : (((allN many).map iz).map hashNs).Nodup := by
  rcases h.cases with ⟨a, b⟩ | ⟨a, b⟩ | ⟨a, b⟩ | ⟨a, b⟩
  · exact hash_nodup inj1 fun ns f => box_le a b f
  · exact hash_nodup inj2 fun ns f => box_le a b f
  · exact hash_nodup inj3 fun ns f => box_le a b f
  · exact hash_nodup inj4 fun ns f => box_le a b f
theorem Sm.prod {many : List Nat} (h : Sm many) : prod many ≤ 36 := by
  rcases h.cases with ⟨a, b⟩ | ⟨a, b⟩ | ⟨a, b⟩ | ⟨a, b⟩
  · match many, a with
    | [x], _ =>
      have := b x (by simp)
      simp [LW.prod]; omega
  · match many, a with
    | [x, y], _ =>
      have h1 := b x (by simp)
      have h2 := b y (by simp)
      have := Nat.mul_le_mul h1 h2
      simp [LW.prod]; omega
  · match many, a with
    | [x, y, z], _ =>
      have h1 := b x (by simp)
      have h2 := b y (by simp)
      have h3 := b z (by simp)
      have := Nat.mul_le_mul (Nat.mul_le_mul h1 h2) h3
      simp [LW.prod]; omega
  · match many, a with
    | [x, y, z, u], _ =>
      have h1 := b x (by simp)
      have h2 := b y (by simp)
      have h3 := b z (by simp)
      have h4 := b u (by simp)
      have := Nat.mul_le_mul (Nat.mul_le_mul (Nat.mul_le_mul h1 h2) h3) h4
      simp [LW.prod]; omega
theorem Sm.six {many : List Nat} (h : Sm many) : many.length ≤ 4 ∧ ∀ m ∈ many, m ≤ 6 := by
  rcases h.cases with ⟨a, b⟩ | ⟨a, b⟩ | ⟨a, b⟩ | ⟨a, b⟩
  · exact ⟨by omega, b⟩
  · exact ⟨by omega, b⟩
  · exact ⟨by omega, fun m hm => Nat.le_trans (b m hm) (by decide)⟩
  · exact ⟨by omega, fun m hm => Nat.le_trans (b m hm) (by decide)⟩
/-! ### lots -/
theorem lot_ge {d : Nat} {lot : List Nat} (ok : LotOk d lot) : ∀ (i a : Nat), lot[i]? = some a → i ≤ a
  | 0, _, _ => Nat.zero_le _
  | i + 1, a, e => by
    have h1 := (List.getElem?_eq_some_iff.mp e).1
    have e2 : lot[i]? = some lot[i] := List.getElem?_eq_getElem (by omega)
    have h2 := lot_ge ok i _ e2
    have h3 := ok.up i _ _ e2 e
    omega
theorem lot_len {d : Nat} {lot : List Nat} (ok : LotOk d lot) : lot.length ≤ d := by
  cases h : lot.length with
  | zero => omega
  | succ k =>
    have e : lot[k]? = some lot[k] := List.getElem?_eq_getElem (by omega)
    have h1 := lot_ge ok k _ e
    have h2 := ok.lt _ (List.mem_of_getElem? e)
    omega
theorem lot_ten {d : Nat} {ws : List (List Nat)} (ok : OffOk d ws) : ∀ l ∈ ws, l.length ≤ 10 := fun l hl => by
  have h1 := lot_len (ok.lots l hl)
  have h2 := ok.d4
  omega
theorem lotOf_at {ws : List (List Nat)} {w : Nat} (h : w < ws.length) : ws[w]? = some (lotOf ws w) := get_of h
theorem lotOf_ok {d : Nat} {ws : List (List Nat)} {w : Nat} (ok : OffOk d ws) (h : w < ws.length) : LotOk d (lotOf ws w) := ok.lots _ (List.mem_of_getElem? (lotOf_at h))
theorem pick_len (ns lot : List Nat) : (pick ns lot).length = lot.length := List.length_map ..
theorem pick_at {ns lot : List Nat} {i x : Nat} (h : lot[i]? = some x) : (pick ns lot)[i]? = some (ns.getD x 0) := by unfold pick; rw [List.getElem?_map, h]; rfl
theorem pick_of {ns lot : List Nat} {i y : Nat} (h : (pick ns lot)[i]? = some y) : ∃ x, lot[i]? = some x ∧ y = ns.getD x 0 := by
  unfold pick at h
  rw [List.getElem?_map] at h
  cases e : lot[i]? with
  | none => rw [e] at h; cases h
  | some x => rw [e] at h; exact ⟨x, rfl, (Option.some.inj h).symm⟩
theorem pick_fit {many ns lot : List Nat} (f : Fit many ns) (h : ∀ x ∈ lot, x < many.length) : Fit (pick many lot) (pick ns lot) := by
  refine ⟨by rw [pick_len, pick_len], fun i a m e1 e2 => ?_⟩
  obtain ⟨x, hx, rfl⟩ := pick_of e1
  obtain ⟨y, hy, rfl⟩ := pick_of e2
  rw [hx] at hy
  injection hy with hy
  subst hy
  have h1 := h x (List.mem_of_getElem? hx)
  have h2 := f.1
  exact f.2 x _ _ (get_of (by omega)) (get_of h1)
/-! ### notes put in their places -/
def puts (ps : List (Nat × Nat)) (ns : List Nat) : List Nat := ps.foldl (fun acc p => acc.set p.1 p.2) ns
theorem puts_len : ∀ (ps : List (Nat × Nat)) (ns : List Nat), (puts ps ns).length = ns.length
  | [], _ => rfl
  | p :: ps, ns => by unfold puts; rw [List.foldl_cons]; exact (puts_len ps _).trans (by simp)
theorem puts_snoc (ps : List (Nat × Nat)) (p : Nat × Nat) (ns : List Nat) : puts (ps ++ [p]) ns = (puts ps ns).set p.1 p.2 := by unfold puts; rw [List.foldl_append]; rfl
theorem fit_set {many ns : List Nat} {i x : Nat} (f : Fit many ns) (h : ∀ m, many[i]? = some m → x < m) : Fit many (ns.set i x) := by
  refine ⟨by simp [f.1], fun j a m e1 e2 => ?_⟩
  by_cases e : i = j
  · subst e
    rw [List.getElem?_set_self (by have := (List.getElem?_eq_some_iff.mp e2).1; have := f.1; omega)] at e1
    injection e1 with e1
    subst e1
    exact h m e2
  · rw [List.getElem?_set_ne e] at e1
    exact f.2 j a m e1 e2
theorem puts_fit {many : List Nat} : ∀ (ps : List (Nat × Nat)) {ns : List Nat}, Fit many ns → (∀ p ∈ ps, ∀ m, many[p.1]? = some m → p.2 < m) → Fit many (puts ps ns)
  | [], _, f, _ => f
  | p :: ps, ns, f, h => by
    unfold puts
    rw [List.foldl_cons]
    exact puts_fit ps (fit_set f (h p List.mem_cons_self)) fun q hq => h q (List.mem_cons_of_mem _ hq)
theorem zip_at {a b : List Nat} {p : Nat × Nat} (h : p ∈ a.zip b) : ∃ i : Nat, a[i]? = some p.1 ∧ b[i]? = some p.2 := by
  obtain ⟨i, hi, e⟩ := List.getElem_of_mem h
  have h1 : (a.zip b)[i]? = some p := by rw [List.getElem?_eq_getElem hi, e]
  rw [List.getElem?_zip_eq_some] at h1
  exact ⟨i, h1⟩
theorem putAll_fit {many ns lot later : List Nat} (f : Fit many ns) (g : Fit (pick many lot) later) : Fit many (putAll lot later ns) := by
  refine puts_fit _ f fun p hp m hm => ?_
  obtain ⟨i, h1, h2⟩ := zip_at hp
  exact g.2 i _ m h2 (by rw [pick_at h1, getD_of hm])
/-! ### machines -/
section
variable {M : Mach}
theorem Mach.Ok.lt (ok : M.Ok) {w : Nat} (hw : w < M.ws.length) : ∀ x ∈ lotOf M.ws w, x < M.many.length := fun x hx => by rw [ok.len]; exact (lotOf_ok ok.off hw).lt x hx
theorem Mach.Ok.sm (ok : M.Ok) : Sm M.many := by
  have h := ok.off.d1
  have h6 := fun m hm => (ok.one m hm).2
  refine ⟨by rw [ok.len]; exact h, ?_⟩
  rcases ok.small with a | ⟨a, b⟩ | ⟨a, b⟩
  · exact .inl ⟨by rw [ok.len]; exact a, h6⟩
  · exact .inr (.inl ⟨by rw [ok.len]; omega, b⟩)
  · exact .inr (.inr ⟨by rw [ok.len]; omega, b⟩)
theorem mem_pick {many lot : List Nat} (h : ∀ x ∈ lot, x < many.length) : ∀ m ∈ pick many lot, m ∈ many := fun m hm => by
  unfold pick at hm
  rw [List.mem_map] at hm
  obtain ⟨x, hx, rfl⟩ := hm
  exact List.mem_of_getElem? (get_of (h x hx))
theorem Mach.Ok.smW (ok : M.Ok) {w : Nat} (hw : w < M.ws.length) : Sm (M.manyOf w) := by
  have lo := lotOf_ok ok.off hw
  have hl := lot_len lo
  have hm := mem_pick (ok.lt hw)
  have h1 := List.length_pos_iff.mpr lo.ne
  refine ⟨by unfold Mach.manyOf; rw [pick_len]; exact h1, ?_⟩
  unfold Mach.manyOf
  rw [pick_len]
  rcases ok.small with a | ⟨a, b⟩ | ⟨a, b⟩
  · exact .inl ⟨by omega, fun m h => (ok.one m (hm m h)).2⟩
  · exact .inr (.inl ⟨by omega, fun m h => b m (hm m h)⟩)
  · exact .inr (.inr ⟨by omega, fun m h => b m (hm m h)⟩)
theorem Mach.Ok.pickFit (ok : M.Ok) {ns : List Nat} {w : Nat} (hw : w < M.ws.length) (f : Fit M.many ns) : Fit (M.manyOf w) (pick ns (lotOf M.ws w)) := pick_fit f (ok.lt hw)
theorem Mach.Ok.next (ok : M.Ok) {ns : List Nat} {w : Nat} (hw : w < M.ws.length) (f : Fit M.many ns) : Fit M.many (M.next ns w) := putAll_fit f (ok.mv w _ hw (ok.pickFit hw f))
theorem Mach.Ok.first (ok : M.Ok) : Fit M.many M.first := by
  unfold Mach.first
  refine ⟨by rw [List.length_replicate, ok.len], fun i a m e1 e2 => ?_⟩
  have h := List.mem_of_getElem? e1
  rw [List.mem_replicate] at h
  have := ok.one m (List.mem_of_getElem? e2)
  omega
theorem Mach.Ok.run (ok : M.Ok) : ∀ (row : List Nat) {ns : List Nat}, (∀ i ∈ row, i < M.ws.length) → Fit M.many ns → Fit M.many (M.run ns row)
  | [], _, _, f => f
  | w :: row, _, h, f => Mach.Ok.run ok row (fun i hi => h i (List.mem_cons_of_mem _ hi)) (ok.next (h w List.mem_cons_self) f)
theorem run_snoc (M : Mach) (ns row : List Nat) (w : Nat) : M.run ns (row ++ [w]) = M.next (M.run ns row) w := by unfold Mach.run; rw [List.foldl_append]; rfl
end
open PySem PySem.Spec PyProof.Rows L2 in
theorem kV_ik (ns : List Nat) : (ik (iz ns)).map kV = vz ns := by rw [ik_V, iz_V]
section
open PySem PySem.Spec PyProof.Rows L2
theorem DictAt.get {H : Hp} {x : V} {keys : List (List Nat)} {R : V → List Nat → Prop} (h : DictAt H x keys R) {k : List Nat} (hk : k ∈ keys) {b : Addr} (hb : H b = some (.tup (vz k))) : ∃ p y, x = .ref p ∧ DGet H p (.ref b) (some y) ∧ R y k := by
  obtain ⟨p, kvs, rfl, hp, _, h2⟩ := h
  obtain ⟨y, hy, r⟩ := h2 k hk
  refine ⟨p, y, rfl, ?_, r⟩
  rw [← hy]
  exact DGet.t hp (by rw [kV_ik]; exact hb)
theorem set_at {α : Type} {ns : List α} {i : Nat} (h : i < ns.length) : ixN ns.length (i : Int) = some i := by
  unfold ixN
  split <;> simp_all
end
open PySem PySem.Spec PyProof.Rows L2 in
theorem r_yes {te : TE} {σ : FT} {H : Hp} {QT : VK} {QF : Hp → Prop} (h : te σ H QT) : tYes σ H fun b H3 => if b = true then te σ H3 QT else QF H3 := by unfold tYes; exact iteT h
theorem fold_le : ∀ (many : List Nat) (a : Nat), (∀ m ∈ many, m ≤ 6) → many.foldl (fun a b => a * b) a ≤ a * 6 ^ many.length
  | [], a, _ => by simp
  | m :: many, a, h => by
    rw [List.foldl_cons]
    have h1 := fold_le many (a * m) fun x hx => h x (List.mem_cons_of_mem _ hx)
    have h2 := h m List.mem_cons_self
    refine Nat.le_trans h1 ?_
    rw [List.length_cons, Nat.pow_succ, Nat.mul_assoc]
    refine Nat.mul_le_mul_left _ ?_
    rw [Nat.mul_comm]
    exact Nat.mul_le_mul_left _ h2
theorem prod_le {many : List Nat} (h4 : many.length ≤ 4) (h6 : ∀ m ∈ many, m ≤ 6) : prod many ≤ 1296 := by
  have h := fold_le many 1 h6
  have h2 : 6 ^ many.length ≤ 6 ^ 4 := Nat.pow_le_pow_right (by decide) h4
  unfold prod
  omega
open PySem PySem.Spec PyProof.Rows L2 in
/-- what is walked comes from a call -/
theorem t_cbC {ι : Type} {wi : TI} {r : List V → Hp → VK → Prop} {g : TG} {tt : TT} {te : TE} {vs : List Nat} {σ : FT} {H : Hp} {Q : VK} (J : ι → It) (H1 : ι → Hp) (F : ι → Prop) (hi : ∀ R : It → Hp → Prop, (∀ x, F x → R (J x) (H1 x)) → wi σ H R)
    (h : ∀ x, F x → tCB r (tCons (tLc (fun _ _ R => R (J x) (H1 x)) g tt te vs) tNil) σ H Q) : tCB r (tCons (tLc wi g tt te vs) tNil) σ H Q := hi _ h
open PySem PySem.Spec PyProof.Rows L2 in
theorem t_lcC {ι : Type} {wi : TI} {g : TG} {tt : TT} {te : TE} {vs : List Nat} {σ : FT} {H : Hp} {Q : VK} (J : ι → It) (H1 : ι → Hp) (F : ι → Prop) (hi : ∀ R : It → Hp → Prop, (∀ x, F x → R (J x) (H1 x)) → wi σ H R)
    (h : ∀ x, F x → tLc (fun _ _ R => R (J x) (H1 x)) g tt te vs σ H Q) : tLc wi g tt te vs σ H Q := hi _ h
section
open PySem PySem.Spec PyProof.Rows L2
/-- over a list or a tuple in a slot -/
def iSeq (K : PySem.W.Frag) (i : Nat) : TI := fun σ H R => iList K (tVar i) σ H R ∨ iTup K (tVar i) σ H R
theorem kpi_seq {X : Cx} {K : PySem.W.Frag} {tg l : Expr} {i : Nat} (hl : PE X l (tVar i)) (h : X.K = K := by rfl) : PI X tg l (iSeq K i) :=
  ⟨fun pins s σ H R I w => w.elim (fun w => (kpi_list hl h).run pins s σ H R I w) fun w => (kpi_tup hl h).run pins s σ H R I w⟩
theorem r_ix0 {K : PySem.W.Frag} {σ : FT} {H : Hp} {Q : VK} {i : Nat} {d : Addr} {xs : List V} (j : Nat) {v : V} (h0 : σ[i]? = some (some (.ref d))) (hd : H d = some (.lst xs)) (hx : xs[j]? = some v) (q : Q v H) : tOp (rIxL K) (tVar i) (tC (.int (j : Int))) σ H Q :=
  ⟨_, h0, d, _, _, _, rfl, rfl, SqL.of hd, at_of rfl hx, q⟩
theorem r_set0 {σ : FT} {H : Hp} {N : FT → Hp → Prop} {te : TE} {i : Nat} {d : Addr} {xs : List V} (j : Nat) {D : Ends} (h0 : σ[i]? = some (some (.ref d))) (hj : j < xs.length)
    (h : te σ H fun v H1 => H1 d = some (.lst xs) ∧ D.nx σ (upd H1 d (.lst (xs.set j v)))) (mono : ∀ Q Q' : VK, (∀ v H1, Q v H1 → Q' v H1) → te σ H Q → te σ H Q') : tAsg te (gSub (tVar i) (tC (.int (j : Int))) rSetL) D σ H := by
  refine mono _ _ (fun v H1 q => ?_) h
  exact ⟨_, h0, d, xs, _, j, rfl, rfl, q.1, set_at hj, q.2⟩
end
section
open PySem PySem.Spec PyProof.Rows L2
theorem r_lst1 {te : TE} {ta : TA} {D : Ends} {σ : FT} {H : Hp} (h : te σ H fun x H1 => ta σ H1 fun xs H2 => (x :: xs).length ≤ sizeLine ∧ ∀ p, H2 p = none → D.rt (.ref p) (upd H2 p (.lst (x :: xs)))) : tRet (tLst (tCons te ta)) D σ H := h
theorem r_asg {te : TE} {D : Ends} {σ : FT} {H : Hp} {i : Nat} (h : te σ H fun x H1 => D.nx (σ.set i (some x)) H1) : tAsg te (gName i) D σ H := h
theorem ints_of : ∀ {ys : List V}, (∀ (i : Nat) y, ys[i]? = some y → ∃ z : Int, y = .int z ∧ 0 ≤ z) → ∃ cells : List Int, ys = cells.map V.int ∧ ∀ z ∈ cells, 0 ≤ z
  | [], _ => ⟨[], rfl, fun _ h => nomatch h⟩
  | y :: ys, h => by
    obtain ⟨z, e, hz⟩ := h 0 y rfl
    obtain ⟨cs, e2, h2⟩ := ints_of (ys := ys) fun i x q => h (i + 1) x (by simpa using q)
    refine ⟨z :: cs, by rw [e, e2]; rfl, fun x hx => ?_⟩
    rcases List.mem_cons.mp hx with e | e
    · rw [e]; exact hz
    · exact h2 x e
end
theorem longer_take {found : List (List Nat)} {n j : Nat} {ns : List Nat} (h : found[j]? = some ns) : longer (found.take (j + 1)) n = longer (found.take j) n ++ (List.range n).map fun x => ns ++ [x] := by
  unfold longer
  rw [List.take_add_one, h, Option.toList_some, List.flatMap_append, List.flatMap_cons, List.flatMap_nil, List.append_nil]
theorem take_len {many : List Nat} (h4 : many.length ≤ 4) (h6 : ∀ m ∈ many, m ≤ 6) (i : Nat) : ((many.take i).foldl longer [[]]).length ≤ 1296 := by
  rw [len_fold]
  exact prod_le (many := many.take i) (by rw [List.length_take]; omega) fun m hm => h6 m (List.mem_of_mem_take hm)
theorem item_len {many : List Nat} (h4 : many.length ≤ 4) (i : Nat) : ∀ ns ∈ (many.take i).foldl longer [[]], ns.length ≤ 4 := fun ns h => by
  have f := (mem_allN (many := many.take i)).mp h
  have := f.1
  rw [List.length_take] at this
  omega
section
open PySem PySem.Spec PyProof.Rows L2
theorem LT.snoc {H : Hp} {xs : List (List Nat)} {ys : List V} {v : V} {ns : List Nat} (hl : ys.length = xs.length) (hx : ∀ (i : Nat) x y, ys[i]? = some x → xs[i]? = some y → T1 H x y) (h : T1 H v ns) :
    (ys ++ [v]).length = (xs ++ [ns]).length ∧ ∀ (i : Nat) x y, (ys ++ [v])[i]? = some x → (xs ++ [ns])[i]? = some y → T1 H x y := by
  refine ⟨by simp [hl], fun i x y e1 e2 => ?_⟩
  by_cases hi : i < ys.length
  · rw [List.getElem?_append_left hi] at e1
    rw [List.getElem?_append_left (by omega)] at e2
    exact hx i x y e1 e2
  · rw [List.getElem?_append_right (by omega)] at e1 e2
    have h0 : i - ys.length = 0 := by
      have := (List.getElem?_eq_some_iff.mp e1).1
      simp at this
      omega
    rw [h0] at e1
    rw [← hl, h0] at e2
    injection e1 with e1
    injection e2 with e2
    subst e1
    subst e2
    exact h
/-- t + u of tuples of numbers -/
theorem r_cat {K : PySem.W.Frag} {H : Hp} {Q : VK} {v u : V} {ns ms : List Nat} (h1 : T1 H v ns) (h2 : T1 H u ms) (hl : ns.length + ms.length ≤ sizeLine) (q : ∀ x H', Kp [] H H' → T1 H' x (ns ++ ms) → Q x H') : rCatA K v u H Q := by
  obtain ⟨a, rfl, ha⟩ := h1
  obtain ⟨b, rfl, hb⟩ := h2
  refine ⟨a, b, _, _, rfl, rfl, SqT.of ha, SqT.of hb, by rw [vz_len, vz_len]; exact hl, fun e => ?_, fun e1 e2 => ?_, fun e1 e2 p hp => ?_⟩
  · have e' : ns = [] := by cases ns with
      | nil => rfl
      | cons x r => cases e
    subst e'
    exact q _ _ Kp.refl ⟨b, rfl, hb⟩
  · have e' : ms = [] := by cases ms with
      | nil => rfl
      | cons x r => cases e2
    subst e'
    exact q _ _ Kp.refl ⟨a, rfl, by rw [List.append_nil]; exact ha⟩
  · exact q _ _ (Kp.new hp) ⟨p, rfl, by rw [upd_same, vz_append]⟩
theorem LT.push {H H4 : Hp} {l : Addr} {xs : List (List Nat)} {ys : List V} {v : V} {ns : List Nat} (hy : H l = some (.lst ys)) (hl : ys.length = xs.length) (hx : ∀ (i : Nat) x y, ys[i]? = some x → xs[i]? = some y → T1 H x y) (k : Kp [] H H4) (h : T1 H4 v ns) :
    LT (upd H4 l (.lst (ys ++ [v]))) l (xs ++ [ns]) := by
  have hy4 := k.get hy
  have t : Tk H4 (upd H4 l (.lst (ys ++ [v]))) := (Kp.refl.put (ch := [l]) List.mem_cons_self fun zs e => by rw [hy4] at e; cases e).tk
  have s := LT.snoc hl (fun i x y e1 e2 => ((hx i x y e1 e2).tk k.tk).tk t) (h.tk t)
  exact ⟨_, upd_same, s.1, s.2⟩
theorem LT.app {H H4 : Hp} {l : Addr} {xs xs2 : List (List Nat)} {ys zs : List V} (hy : H l = some (.lst ys)) (hl : ys.length = xs.length) (hx : ∀ (i : Nat) x y, ys[i]? = some x → xs[i]? = some y → T1 H x y) (k : Kp [] H H4)
    (hl2 : zs.length = xs2.length) (hx2 : ∀ (i : Nat) x y, zs[i]? = some x → xs2[i]? = some y → T1 H4 x y) : LT (upd H4 l (.lst (ys ++ zs))) l (xs ++ xs2) := by
  have hy4 := k.get hy
  have t : Tk H4 (upd H4 l (.lst (ys ++ zs))) := (Kp.refl.put (ch := [l]) List.mem_cons_self fun zs e => by rw [hy4] at e; cases e).tk
  refine ⟨_, upd_same, by simp [hl, hl2], fun i x y e1 e2 => ?_⟩
  by_cases hi : i < ys.length
  · rw [List.getElem?_append_left hi] at e1
    rw [List.getElem?_append_left (by omega)] at e2
    exact ((hx i x y e1 e2).tk k.tk).tk t
  · rw [List.getElem?_append_right (by omega)] at e1 e2
    rw [← hl] at e2
    exact (hx2 _ x y e1 e2).tk t
/-- a for over a list or a tuple in a slot -/
theorem t_seq {K : PySem.W.Frag} {i : Nat} {g : TG} {tb : TS} {D : Ends} {σ : FT} {H1 : Hp} {a : Addr} {xs : List V} (h0 : σ[i]? = some (some (.ref a))) (h : H1 a = some (.lst xs) ∨ H1 a = some (.tup xs))
    (q : ∀ (J : It) (G : Hp → Prop), Walk J xs.length G (YAt xs) → (∀ H', (∀ o, H1 a = some o → H' a = some o) → G H') → tFor (fun _ _ R => R J H1) g tb D σ H1) : tFor (iSeq K i) g tb D σ H1 := by
  rcases h with h | h
  · exact .inl ⟨_, h0, a, rfl, ⟨_, SqL.of h⟩, q _ _ (walk_list (K := K)) fun H' e => SqL.of (e _ h)⟩
  · exact .inr ⟨_, h0, a, rfl, ⟨_, SqT.of h⟩, q _ _ (walk_tup (K := K)) fun H' e => SqT.of (e _ h)⟩
theorem r_yesP {A B : Hp → Prop} {σ : FT} {H : Hp} (h : A H) : tYes σ H fun b H3 => if b = true then A H3 else B H3 := by unfold tYes; exact iteT h
theorem one_le : (1 : Nat) ≤ sizeLine := by decide
end
end LW
namespace LW
open PySem PySem.Spec PyProof.Rows L2 RZ
theorem three_le : (3 : Nat) ≤ sizeLine := by decide
theorem two_le : (2 : Nat) ≤ sizeLine := by decide
/-! ### lists of things that only tuples bear -/
def LR {α : Type} (R : Hp → V → α → Prop) (H : Hp) (l : Addr) (xs : List α) : Prop := ∃ vs, H l = some (.lst vs) ∧ vs.length = xs.length ∧ ∀ (i : Nat) x y, vs[i]? = some x → xs[i]? = some y → R H x y
theorem LR.nil {α : Type} {R : Hp → V → α → Prop} {H : Hp} {l : Addr} (h : H l = some (.lst [])) : LR R H l [] := ⟨[], h, rfl, fun i x y e => by simp at e⟩
theorem LR.one {α : Type} {R : Hp → V → α → Prop} {H : Hp} {l : Addr} {v : V} {x : α} (h : H l = some (.lst [v])) (r : R H v x) : LR R H l [x] := ⟨[v], h, rfl, fun i x y e1 e2 => by
  cases i with
  | zero => injection e1 with e1; injection e2 with e2; subst e1; subst e2; exact r
  | succ i => simp at e1⟩
theorem LR.push {α : Type} {R : Hp → V → α → Prop} (hR : ∀ {H H' : Hp} {x : V} {y : α}, Tk H H' → R H x y → R H' x y) {H H4 : Hp} {l : Addr} {xs : List α} {ys : List V} {v : V} {n : α} (hl : ys.length = xs.length) (hx : ∀ (i : Nat) x y, ys[i]? = some x → xs[i]? = some y → R H x y)
    (t4 : Tk H H4) (hy4 : H4 l = some (.lst ys)) (h : R H4 v n) : LR R (upd H4 l (.lst (ys ++ [v]))) l (xs ++ [n]) := by
  have t : Tk H4 (upd H4 l (.lst (ys ++ [v]))) := (Kp.refl.put (ch := [l]) List.mem_cons_self fun zs e => by rw [hy4] at e; cases e).tk
  refine ⟨_, upd_same, by simp [hl], fun i x y e1 e2 => ?_⟩
  by_cases hi : i < ys.length
  · rw [List.getElem?_append_left hi] at e1
    rw [List.getElem?_append_left (by omega)] at e2
    exact hR t (hR t4 (hx i x y e1 e2))
  · rw [List.getElem?_append_right (by omega)] at e1 e2
    have h0 : i - ys.length = 0 := by
      have := (List.getElem?_eq_some_iff.mp e1).1
      simp at this
      omega
    rw [h0] at e1
    rw [← hl, h0] at e2
    injection e1 with e1
    injection e2 with e2
    subst e1
    subst e2
    exact hR t h
theorem LR.tk {α : Type} {R : Hp → V → α → Prop} (hR : ∀ {H H' : Hp} {x : V} {y : α}, Tk H H' → R H x y → R H' x y) {H H' : Hp} {l : Addr} {xs : List α} (h : LR R H l xs) (t : Tk H H') (hl : ∀ vs, H l = some (.lst vs) → H' l = some (.lst vs)) : LR R H' l xs :=
  let ⟨vs, h1, h2, h3⟩ := h
  ⟨vs, hl vs h1, h2, fun i x y e1 e2 => hR t (h3 i x y e1 e2)⟩
/-! ### the dict of what is known -/
def KnD (H : Hp) (p : Addr) (ks : List (List Nat)) : Prop := ∃ kvs, H p = some (.dT kvs) ∧ kvs.map (·.1) = ks.map fun k => ik (iz k)
theorem key_inj {a b : List Nat} (h : ik (iz a) = ik (iz b)) : a = b := iz_inj (ik_inj h)
theorem val_some {kvs : List (List Key × V)} {ks : List (List Nat)} (h : kvs.map (·.1) = ks.map fun k => ik (iz k)) (k : List Nat) : (valV kvs (ik (iz k))).isSome = decide (k ∈ ks) := by
  unfold valV
  rw [Option.isSome_map, Bool.eq_iff_iff, List.find?_isSome, decide_eq_true_iff]
  constructor
  · rintro ⟨x, hx, e⟩
    have e := of_decide_eq_true e
    have h1 : x.1 ∈ kvs.map (·.1) := List.mem_map_of_mem hx
    rw [h, List.mem_map] at h1
    obtain ⟨k', hk', e2⟩ := h1
    rw [← e2] at e
    rw [← key_inj e]
    exact hk'
  · intro hk
    have h1 : ik (iz k) ∈ kvs.map (·.1) := by rw [h]; exact List.mem_map.mpr ⟨k, hk, rfl⟩
    obtain ⟨x, hx, e⟩ := List.mem_map.mp h1
    exact ⟨x, hx, by simp [e]⟩
theorem KnD.get {H : Hp} {p b : Addr} {ks : List (List Nat)} (h : KnD H p ks) {k : List Nat} (hb : H b = some (.tup (vz k))) : ∃ o, DGet H p (.ref b) o ∧ o.isSome = decide (k ∈ ks) := by
  obtain ⟨kvs, hp, hk⟩ := h
  exact ⟨_, DGet.t hp (by rw [kV_ik]; exact hb), val_some hk k⟩
theorem put_new {kvs : List (List Key × V)} {ks : List (List Nat)} (h : kvs.map (·.1) = ks.map fun k => ik (iz k)) {k : List Nat} (hk : k ∉ ks) (v : V) : putK kvs (ik (iz k)) v = kvs ++ [(ik (iz k), v)] := by
  unfold putK
  rw [if_neg]
  rw [List.any_eq_true]
  rintro ⟨x, hx, e⟩
  have e := of_decide_eq_true e
  have h1 : x.1 ∈ kvs.map (·.1) := List.mem_map_of_mem hx
  rw [h, List.mem_map] at h1
  obtain ⟨k', hk', e2⟩ := h1
  rw [← e2] at e
  rw [← key_inj e] at hk
  exact hk hk'
theorem KnD.put {H : Hp} {p b : Addr} {ks : List (List Nat)} (h : KnD H p ks) {k : List Nat} (hb : H b = some (.tup (vz k))) (hk : k ∉ ks) (hl : ks.length < sizeLine) (v : V) : ∃ o, DPut H p (.ref b) v (upd H p (.dT o)) ∧ KnD (upd H p (.dT o)) p (ks ++ [k]) := by
  obtain ⟨kvs, hp, h2⟩ := h
  have e : kvs.length = ks.length := by rw [← List.length_map (as := kvs) (f := (·.1)), h2, List.length_map]
  refine ⟨_, DPut.t hp (by rw [kV_ik]; exact hb) (by omega), _, upd_same, ?_⟩
  rw [put_new h2 hk, List.map_append, h2, List.map_append]
  rfl
theorem KnD.keep {H H' : Hp} {p : Addr} {ks : List (List Nat)} (h : KnD H p ks) (e : ∀ kvs, H p = some (.dT kvs) → H' p = some (.dT kvs)) : KnD H' p ks := let ⟨kvs, h1, h2⟩ := h; ⟨kvs, e _ h1, h2⟩
/-- what is not a tuple changes: tuples stay -/
theorem Tk.put {H : Hp} {p : Addr} {o : HO} (n : ∀ xs, H p ≠ some (.tup xs)) : Tk H (upd H p o) := (Kp.refl.put (ch := [p]) List.mem_cons_self n).tk
theorem Tk.trans {H H1 H2 : Hp} (a : Tk H H1) (b : Tk H1 H2) : Tk H H2 := fun x xs h => b x xs (a x xs h)
theorem Tk.refl {H : Hp} : Tk H H := fun _ _ h => h
/-- (0,) * n -/
theorem r_rep0 {K : PySem.W.Frag} {H : Hp} {Q : VK} {p : Addr} {n : Nat} (h : H p = some (.tup [.int 0])) (h1 : 1 ≤ n) (h2 : n ≤ 1000) (k : ∀ v H', Kp [] H H' → T1 H' v (List.replicate n 0) → Q v H') : rRepA K (.ref p) (.int (n : Int)) H Q := by
  refine ⟨p, _, _, rfl, rfl, SqT.of h, by simp, by omega, by omega, by simp, fun e => k _ _ Kp.refl ⟨p, rfl, ?_⟩, fun e q hq => k _ _ (Kp.new hq) ⟨q, rfl, ?_⟩⟩
  · have e2 : n = 1 := by omega
    rw [h, e2]
    rfl
  · rw [upd_same, Int.toNat_natCast, rep_zero]
/-! ### the search, turn by turn -/
section
variable {α : Type} [DecidableEq α] (S : Sys α)
def Sys.upTo (p : List Nat × α) (acc : List α × List (List Nat × α)) (k : Nat) : List α × List (List Nat × α) := (List.range k).foldl (S.add p) acc
def Sys.part (known : List α) (layer : List (List Nat × α)) (i : Nat) : List α × List (List Nat × α) := (layer.take i).foldl S.expand (known, [])
theorem Sys.upTo_succ (p : List Nat × α) (acc : List α × List (List Nat × α)) (k : Nat) : S.upTo p acc (k + 1) = S.add p (S.upTo p acc k) k := by unfold Sys.upTo; rw [List.range_succ, List.foldl_append]; rfl
theorem Sys.upTo_all (p : List Nat × α) (acc : List α × List (List Nat × α)) : S.upTo p acc S.nw = S.expand acc p := rfl
theorem Sys.part_succ {known : List α} {layer : List (List Nat × α)} {i : Nat} {p : List Nat × α} (h : layer[i]? = some p) : S.part known layer (i + 1) = S.expand (S.part known layer i) p := by unfold Sys.part; rw [List.take_add_one, h, Option.toList_some, List.foldl_append]; rfl
theorem Sys.part_all (known : List α) (layer : List (List Nat × α)) : S.part known layer layer.length = S.layer known layer := by unfold Sys.part Sys.layer; rw [List.take_length]
theorem Sys.add_len (p : List Nat × α) (acc : List α × List (List Nat × α)) (w : Nat) : (S.add p acc w).1.length ≤ acc.1.length + 1 ∧ (S.add p acc w).2.length ≤ acc.2.length + 1 := by
  unfold Sys.add
  split
  · exact ⟨Nat.le_succ _, Nat.le_succ _⟩
  · simp
theorem Sys.upTo_len (p : List Nat × α) (acc : List α × List (List Nat × α)) : ∀ k, (S.upTo p acc k).1.length ≤ acc.1.length + k ∧ (S.upTo p acc k).2.length ≤ acc.2.length + k
  | 0 => ⟨Nat.le_refl _, Nat.le_refl _⟩
  | k + 1 => by
    rw [S.upTo_succ]
    have h1 := Sys.upTo_len p acc k
    have h2 := S.add_len p (S.upTo p acc k) k
    exact ⟨by omega, by omega⟩
theorem Sys.part_len (known : List α) (layer : List (List Nat × α)) : ∀ i, i ≤ layer.length → (S.part known layer i).1.length ≤ known.length + i * S.nw ∧ (S.part known layer i).2.length ≤ i * S.nw
  | 0, _ => by simp [Sys.part]
  | i + 1, hi => by
    have e : layer[i]? = some layer[i] := List.getElem?_eq_getElem (by omega)
    rw [S.part_succ e]
    have h1 := Sys.part_len known layer i (by omega)
    have h2 := S.upTo_len layer[i] (S.part known layer i) S.nw
    rw [S.upTo_all] at h2
    rw [Nat.add_mul, Nat.one_mul]
    exact ⟨by omega, by omega⟩
/-- what a search that is not at its end says of the layer -/
theorem Bfs.look {S : Sys α} {G : List α → List (List Nat × α) → Prop} {m : Nat} {known : List α} {layer : List (List Nat × α)} {res : Option (List Nat)} (B : Bfs S G m known layer res) (hn : layer ≠ []) :
    G known layer ∧ (∀ (i : Nat) p, layer[i]? = some p → (∀ (j : Nat) q, j < i → layer[j]? = some q → S.bad q.2 = false) → S.bad p.2 = true → res = some p.1) ∧
    ((∀ p ∈ layer, S.bad p.2 = false) → ∃ m', m' < m ∧ Bfs S G m' (S.layer known layer).1 (S.layer known layer).2 res) := by
  cases B with
  | done => exact absurd rfl hn
  | hit g hpre hb =>
    rename_i pre row s post
    refine ⟨g, fun i p e h1 h2 => ?_, fun h => ?_⟩
    · by_cases c1 : i < pre.length
      · rw [List.getElem?_append_left c1] at e
        rw [hpre p (List.mem_of_getElem? e)] at h2
        cases h2
      · by_cases c2 : i = pre.length
        · subst c2
          rw [List.getElem?_append_right (Nat.le_refl _), Nat.sub_self] at e
          injection e with e
          rw [← e]
        · have := h1 pre.length (row, s) (by omega) (by rw [List.getElem?_append_right (Nat.le_refl _), Nat.sub_self]; rfl)
          rw [hb] at this
          cases this
    · have := h (row, s) (by simp)
      rw [hb] at this
      cases this
  | step g hne hall B =>
    refine ⟨g, fun i p e _ h2 => ?_, fun _ => ⟨_, Nat.lt_succ_self _, B⟩⟩
    rw [hall p (List.mem_of_getElem? e)] at h2
    cases h2
theorem Bfs.nil {S : Sys α} {G : List α → List (List Nat × α) → Prop} {m : Nat} {known : List α} {res : Option (List Nat)} (B : Bfs S G m known [] res) : res = none := by
  generalize e : ([] : List (List Nat × α)) = l at B
  cases B with
  | done => rfl
  | hit => simp at e
  | step _ hn => exact absurd e.symm hn
def mUpTo (found : List α) (s : α) (k : Nat) : List α := (List.range k).foldl (meet S s) found
theorem mUpTo_succ (found : List α) (s : α) (k : Nat) : mUpTo S found s (k + 1) = meet S s (mUpTo S found s k) k := by unfold mUpTo; rw [List.range_succ, List.foldl_append]; rfl
theorem mUpTo_all (found : List α) (s : α) : mUpTo S found s S.nw = meets S found s := rfl
theorem mUpTo_len (found : List α) (s : α) : ∀ k, (mUpTo S found s k).length ≤ found.length + k
  | 0 => Nat.le_refl _
  | k + 1 => by
    rw [mUpTo_succ]
    have h1 := mUpTo_len found s k
    unfold meet
    split
    · omega
    · simp; omega
theorem mUpTo_get (found : List α) (s : α) {i : Nat} {x : α} (h : found[i]? = some x) : ∀ k, (mUpTo S found s k)[i]? = some x
  | 0 => h
  | k + 1 => by
    rw [mUpTo_succ]
    have h1 := mUpTo_get found s h k
    unfold meet
    split
    · exact h1
    · rw [List.getElem?_append_left (List.getElem?_eq_some_iff.mp h1).1]; exact h1
theorem Met.look {S : Sys α} {G : List α → Prop} {n i : Nat} {found res : List α} (M : Met S G n i found res) : G found ∧ (found.length ≤ i → found = res) ∧ ∀ s, found[i]? = some s → ∃ n', n' < n ∧ Met S G n' (i + 1) (meets S found s) res := by
  cases M with
  | done g h => exact ⟨g, fun _ => rfl, fun s e => by have := (List.getElem?_eq_some_iff.mp e).1; omega⟩
  | step g e M =>
    refine ⟨g, fun h => ?_, fun s' e' => ?_⟩
    · have := (List.getElem?_eq_some_iff.mp e).1
      omega
    · rw [e] at e'
      injection e' with e'
      subst e'
      exact ⟨_, Nat.lt_succ_self _, M⟩
end
end LW
namespace LW
section
variable {α : Type} [DecidableEq α] {S : Sys α}
theorem meet_nodup {s : α} {found : List α} {w : Nat} (h : found.Nodup) : (meet S s found w).Nodup := by
  unfold meet
  split
  · exact h
  · rename_i hn
    rw [List.nodup_append]
    exact ⟨h, by simp, fun a ha b hb e => hn (by rw [List.mem_singleton.mp hb] at e; rw [← e]; exact ha)⟩
theorem meet_sub {s : α} {found : List α} {w : Nat} : ∀ x ∈ found, x ∈ meet S s found w := fun x hx => by
  unfold meet
  split
  · exact hx
  · exact List.mem_append_left _ hx
theorem meet_has {s : α} {found : List α} {w : Nat} : S.next s w ∈ meet S s found w := by
  unfold meet
  split
  · assumption
  · simp
theorem upTo_nodup {s : α} {found : List α} (h : found.Nodup) : ∀ k, (mUpTo S found s k).Nodup
  | 0 => h
  | k + 1 => by rw [mUpTo_succ]; exact meet_nodup (upTo_nodup h k)
theorem upTo_sub {s : α} {found : List α} : ∀ k, ∀ x ∈ found, x ∈ mUpTo S found s k
  | 0, _, h => h
  | k + 1, x, h => by rw [mUpTo_succ]; exact meet_sub x (upTo_sub k x h)
theorem upTo_has {s : α} {found : List α} : ∀ k w, w < k → S.next s w ∈ mUpTo S found s k
  | 0, _, h => absurd h (Nat.not_lt_zero _)
  | k + 1, w, h => by
    rw [mUpTo_succ]
    by_cases e : w = k
    · subst e; exact meet_has
    · exact meet_sub _ (upTo_has k w (by omega))
theorem Met.nodup {G : List α → Prop} : ∀ {n i : Nat} {found res : List α}, Met S G n i found res → found.Nodup → res.Nodup := by
  intro n i found res M
  induction M with
  | done _ _ => exact id
  | step _ _ _ ih => exact fun h => ih (upTo_nodup h _)
theorem Met.first {G : List α → Prop} {x : α} : ∀ {n i : Nat} {found res : List α}, Met S G n i found res → found[0]? = some x → res[0]? = some x := by
  intro n i found res M
  induction M with
  | done _ _ => exact id
  | step _ _ _ ih => exact fun h => ih (mUpTo_get S _ _ h _)
theorem Met.good {G : List α → Prop} {n i : Nat} {found res : List α} (M : Met S G n i found res) : G res := by
  induction M with
  | done g _ => exact g
  | step _ _ _ ih => exact ih
theorem Met.closed {G : List α → Prop} : ∀ {n i : Nat} {found res : List α}, Met S G n i found res → (∀ (j : Nat) s, j < i → found[j]? = some s → ∀ w, w < S.nw → S.next s w ∈ found) → ∀ s ∈ res, ∀ w, w < S.nw → S.next s w ∈ res := by
  intro n i found res M
  induction M with
  | done _ hl =>
    intro h s hs w hw
    obtain ⟨j, hj, e⟩ := List.getElem_of_mem hs
    exact h j s (by omega) (by rw [List.getElem?_eq_getElem hj, e]) w hw
  | step _ e M ih =>
    rename_i i s found res hg
    intro h
    refine ih fun j s' hj e' w hw => ?_
    by_cases hji : j < i
    · have hjl : j < found.length := by have := (List.getElem?_eq_some_iff.mp e).1; omega
      have e3 : found[j]? = some found[j] := List.getElem?_eq_getElem hjl
      have e2 := mUpTo_get S found s e3 S.nw
      rw [mUpTo_all, e'] at e2
      injection e2 with e2
      exact upTo_sub S.nw _ (by rw [e2]; exact h j _ hji e3 w hw)
    · have hji : j = i := by omega
      subst hji
      have e2 := mUpTo_get S found s e S.nw
      rw [mUpTo_all, e'] at e2
      injection e2 with e2
      rw [e2]
      exact upTo_has S.nw w hw
end
theorem nd_idx {order : List (List Nat)} (nd : order.Nodup) {j : Nat} (h : j < order.length) : order.idxOf order[j] = j := nd.idxOf_getElem j h
/-- what is known of the order -/
structure OrdOk (M : Mach) (order : List (List Nat)) : Prop where
  nd : order.Nodup
  len : order.length ≤ 10000
  fit : ∀ ns ∈ order, Fit M.many ns
  first : order[0]? = some M.first
  closed : ∀ ns ∈ order, ∀ w, w < M.ws.length → M.next ns w ∈ order
theorem Met.ord {M : Mach} {n : Nat} {order : List (List Nat)} (h : Met (sysM M) (FewM (Fit M.many)) n 0 [M.first] order) : OrdOk M order :=
  ⟨h.nodup (by simp), h.good.1, h.good.2, h.first rfl, h.closed fun j s hj => absurd hj (Nat.not_lt_zero _)⟩
theorem idx_lt {order : List (List Nat)} {x : List Nat} (h : x ∈ order) : order.idxOf x < order.length := List.idxOf_lt_length_iff.mpr h
theorem idx_at {order : List (List Nat)} {x : List Nat} (h : x ∈ order) : order[order.idxOf x]? = some x := by
  rw [List.getElem?_eq_getElem (idx_lt h), List.getElem_idxOf]
theorem OrdOk.steps {M : Mach} {order : List (List Nat)} (ok : M.Ok) (h : OrdOk M order) : StepsOk M.ws.length (telOf M order) (stepsOf M order) := by
  refine ⟨?_, fun t ht => ?_, by unfold telOf stepsOf; rw [List.length_map, List.length_map], fun gs hgs => ?_⟩
  · unfold telOf
    rw [List.length_map]
    have := (List.getElem?_eq_some_iff.mp h.first).1
    omega
  · unfold telOf at ht
    obtain ⟨ns, hns, rfl⟩ := List.mem_map.mp ht
    exact ok.tl ns (h.fit ns hns)
  · unfold stepsOf at hgs
    obtain ⟨ns, hns, rfl⟩ := List.mem_map.mp hgs
    refine ⟨by rw [List.length_map, List.length_range], fun g hg => ?_⟩
    obtain ⟨w, hw, rfl⟩ := List.mem_map.mp hg
    unfold telOf
    rw [List.length_map]
    exact idx_lt (h.closed ns hns w (List.mem_range.mp hw))
theorem tel_at {M : Mach} {order : List (List Nat)} {i : Nat} {ns : List Nat} (h : order[i]? = some ns) : (telOf M order)[i]? = some (M.tl ns) := by unfold telOf; rw [List.getElem?_map, h]; rfl
theorem steps_at {M : Mach} {order : List (List Nat)} {i : Nat} {ns : List Nat} (h : order[i]? = some ns) : (stepsOf M order)[i]? = some ((List.range M.ws.length).map fun w => order.idxOf (M.next ns w)) := by unfold stepsOf; rw [List.getElem?_map, h]; rfl
theorem tel_len (M : Mach) (order : List (List Nat)) : (telOf M order).length = order.length := List.length_map ..
theorem steps_len (M : Mach) (order : List (List Nat)) : (stepsOf M order).length = order.length := List.length_map ..
/-! ### the dict of the numbers -/
section
open PySem PySem.Spec PyProof.Rows L2
theorem r_tup1 {te : TE} {ta : TA} {D : Ends} {σ : FT} {H : Hp} (h : te σ H fun x H1 => ta σ H1 fun xs H2 => (x :: xs).length ≤ sizeLine ∧ ∀ p, H2 p = none → D.rt (.ref p) (upd H2 p (.tup (x :: xs)))) : tRet (tTup (tCons te ta)) D σ H := h
def numK (order : List (List Nat)) (i : Nat) : List (List Key × V) := (List.range i).map fun j => (ik (iz (order.getD j [])), V.int (j : Int))
theorem numK_keys (order : List (List Nat)) (i : Nat) (h : i ≤ order.length) : (numK order i).map (·.1) = (order.take i).map fun k => ik (iz k) := by
  unfold numK
  refine List.ext_getElem? fun j => ?_
  simp only [List.map_map, List.getElem?_map]
  by_cases hj : j < i
  · rw [List.getElem?_range hj, List.getElem?_take, if_pos hj, get_of (d := []) (show j < order.length by omega)]
    rfl
  · rw [List.getElem?_eq_none_iff.mpr (by simp; omega), List.getElem?_take, if_neg hj]
    rfl
theorem numK_succ (order : List (List Nat)) (i : Nat) : numK order (i + 1) = numK order i ++ [(ik (iz (order.getD i [])), V.int (i : Int))] := by unfold numK; rw [List.range_succ, List.map_append]; rfl
theorem val_at : ∀ {kvs : List (List Key × V)} {j : Nat} {k : List Key} {v : V}, (kvs.map (·.1)).Nodup → kvs[j]? = some (k, v) → valV kvs k = some v
  | [], _, _, _, _, e => by simp at e
  | (k0, v0) :: r, 0, k, v, _, e => by
    injection e with e
    injection e with e1 e2
    subst e1
    subst e2
    unfold valV
    rw [List.find?_cons, decide_eq_true rfl]
    rfl
  | (k0, v0) :: r, j + 1, k, v, h, e => by
    rw [List.map_cons, List.nodup_cons] at h
    have e : r[j]? = some (k, v) := by simpa using e
    have ne : k0 ≠ k := fun q => h.1 (by
      rw [List.mem_map]
      exact ⟨(k, v), List.mem_of_getElem? e, q.symm⟩)
    have ih := val_at h.2 e
    unfold valV at ih ⊢
    rw [List.find?_cons, decide_eq_false ne]
    exact ih
theorem numK_val {order : List (List Nat)} (nd : order.Nodup) {ns : List Nat} (h : ns ∈ order) : valV (numK order order.length) (ik (iz ns)) = some (.int (order.idxOf ns : Nat)) := by
  have hk := numK_keys order order.length (Nat.le_refl _)
  rw [List.take_length] at hk
  refine val_at (j := order.idxOf ns) ?_ ?_
  · rw [hk, List.Nodup, List.pairwise_map]
    exact nd.imp fun hne e => hne (key_inj e)
  · unfold numK
    rw [List.getElem?_map, List.getElem?_range (idx_lt h), Option.map_some, getD_of (idx_at h)]
end
end LW
namespace LW
open PySem PySem.Spec PyProof.Rows L2 RZ
/-- items each of which is some tuple with P: which tuples -/
theorem some_lots {H : Hp} {P : List Nat → Prop} : ∀ {ys : List V}, (∀ (i : Nat) y, ys[i]? = some y → ∃ lot, T1 H y lot ∧ P lot) → ∃ xs : List (List Nat), ys.length = xs.length ∧ (∀ (i : Nat) x y, ys[i]? = some x → xs[i]? = some y → T1 H x y) ∧ ∀ x ∈ xs, P x
  | [], _ => ⟨[], rfl, fun i x y e => by simp at e, fun _ h => nomatch h⟩
  | v :: ys, h => by
    obtain ⟨lot, t, p⟩ := h 0 v rfl
    obtain ⟨xs, h1, h2, h3⟩ := some_lots (ys := ys) fun i y e => h (i + 1) y (by simpa using e)
    refine ⟨lot :: xs, by simp [h1], fun i x y e1 e2 => ?_, fun x hx => ?_⟩
    · cases i with
      | zero =>
        injection e1 with e1
        injection e2 with e2
        subst e1
        subst e2
        exact t
      | succ i => exact h2 i x y (by simpa using e1) (by simpa using e2)
    · rcases List.mem_cons.mp hx with e | e
      · rw [e]; exact p
      · exact h3 x e
/-- for over the answer of a def with one argument -/
theorem t_forC {K : PySem.W.Frag} {sp : Sp} {E : XK} {te : TE} {g : TG} {tb : TS} {D : Ends} {σ : FT} {H : Hp} (h : te σ H fun v H1 => sp [v] H1 (fun x H2 => ∃ a, x = .ref a ∧ (∃ xs, SqL K H2 a xs) ∧ tFor (fun _ _ R => R (Itl K a) H2) g tb D σ H2) E) :
    tFor (iList K (tCall sp [] E (tCons te tNil))) g tb D σ H := h
/-- d[k] = v with a key that is not there yet -/
theorem DictAt.put {H : Hp} {p b : Addr} {keys : List (List Nat)} {R R' : V → List Nat → Prop} (h : DictAt H (.ref p) keys R) {k : List Nat} (hk : k ∉ keys) (hb : H b = some (.tup (vz k))) (hl : keys.length < sizeLine) {v : V} (hR : ∀ y q, q ∈ keys → R y q → R' y q) (hv : R' v k) :
    ∃ o, DPut H p (.ref b) v (upd H p (.dT o)) ∧ DictAt (upd H p (.dT o)) (.ref p) (keys ++ [k]) R' := by
  obtain ⟨p', kvs, e, hp, h2, h3⟩ := h
  injection e with e
  subst e
  have el : kvs.length = keys.length := by rw [← List.length_map (as := kvs) (f := (·.1)), h2, List.length_map]
  refine ⟨_, DPut.t hp (by rw [kV_ik]; exact hb) (by omega), p, _, rfl, upd_same, ?_, fun q hq => ?_⟩
  · rw [put_new h2 hk, List.map_append, h2, List.map_append]
    rfl
  · rw [put_new h2 hk]
    rcases List.mem_append.mp hq with hq | hq
    · obtain ⟨y, e, r⟩ := h3 q hq
      refine ⟨y, ?_, hR y q hq r⟩
      unfold valV at e ⊢
      rw [List.find?_append]
      cases e2 : kvs.find? (fun kv => decide (kv.1 = ik (iz q))) with
      | none => rw [e2] at e; cases e
      | some z => rw [e2] at e; exact e
    · have e := List.mem_singleton.mp hq
      subst e
      refine ⟨v, ?_, hv⟩
      unfold valV
      rw [List.find?_append]
      have e3 : kvs.find? (fun kv => decide (kv.1 = ik (iz q))) = none := by
        have := val_some h2 q
        unfold valV at this
        rw [decide_eq_false hk, Option.isSome_map] at this
        cases e4 : kvs.find? (fun kv => decide (kv.1 = ik (iz q))) with
        | none => rfl
        | some z => rw [e4] at this; cases this
      rw [e3, Option.none_or, List.find?_cons, decide_eq_true rfl]
      rfl
theorem DictAt.nil {H : Hp} {p : Addr} {R : V → List Nat → Prop} (h : H p = some (.dT [])) : DictAt H (.ref p) [] R := ⟨p, [], rfl, h, rfl, fun _ h => nomatch h⟩
theorem ne_of2' {H : Hp} {a b : Addr} {o : HO} (h : H a = some o) (n : H b = none) : b ≠ a := Ne.symm (ne_of2 h n)
/-- a pair that is sorted -/
theorem perm_two {ns : List Int} {a b : Int} (h : ns.Perm [a, b]) (hs : ns.Pairwise (· ≤ ·)) (ne : a ≠ b) : ∃ x y, ns = [x, y] ∧ x < y ∧ (x = a ∨ x = b) ∧ (y = a ∨ y = b) := by
  have hl := h.length_eq
  match ns, hl with
  | [x, y], _ =>
    have hx : x ∈ [a, b] := h.mem_iff.mp (by simp)
    have hy : y ∈ [a, b] := h.mem_iff.mp (by simp)
    have ha : a ∈ [x, y] := h.mem_iff.mpr (by simp)
    have hb : b ∈ [x, y] := h.mem_iff.mpr (by simp)
    simp at hx hy ha hb hs
    refine ⟨x, y, rfl, ?_, hx, hy⟩
    omega
theorem lot_one {d x : Nat} (h : x < d) : LotOk d [x] := ⟨by simp, fun y hy => by rw [List.mem_singleton.mp hy]; exact h, fun i a b e1 e2 => by
  cases i with
  | zero => simp at e2
  | succ i => simp at e2⟩
theorem lot_two {d x y : Nat} (h : x < y) (hy : y < d) : LotOk d [x, y] := ⟨by simp, fun z hz => by simp at hz; omega, fun i a b e1 e2 => by
  cases i with
  | zero => simp at e1 e2; omega
  | succ i => simp at e2⟩
theorem lot_of {d : Nat} {ns : List Nat} (ne : ns ≠ []) (hl : ∀ x ∈ ns, x < d) (hp : ns.Pairwise (· < ·)) : LotOk d ns := ⟨ne, hl, fun i a b e1 e2 => by
  obtain ⟨h1, e1⟩ := List.getElem?_eq_some_iff.mp e1
  obtain ⟨h2, e2⟩ := List.getElem?_eq_some_iff.mp e2
  have := List.pairwise_iff_getElem.mp hp i (i + 1) h1 h2 (Nat.lt_succ_self i)
  rw [e1, e2] at this
  exact this⟩
theorem cut_take (xs : List V) (k : Nat) : cutV xs none (some (k : Int)) = xs.take k := by
  unfold cutV
  rw [HT.sIx_none, HT.sIx_nat, List.drop_zero, Nat.sub_zero]
  by_cases h : k ≤ xs.length
  · rw [Nat.min_eq_left h]
  · rw [Nat.min_eq_right (by omega), List.take_length, List.take_of_length_le (by omega)]
theorem cut_drop (xs : List V) (k : Nat) : cutV xs (some (k : Int)) none = xs.drop k := by
  unfold cutV
  rw [HT.sIx_none, HT.sIx_nat]
  by_cases h : k ≤ xs.length
  · rw [Nat.min_eq_left h, List.take_of_length_le (by rw [List.length_drop]; omega)]
  · rw [Nat.min_eq_right (by omega), List.drop_of_length_le (by omega), List.drop_of_length_le (by omega)]
    simp
section
variable {K : PySem.W.Frag} {H : Hp} {Q : VK} {a b : Addr} {xs ys : List V}
theorem r_slT {k : Nat} (h : H a = some (.tup xs)) (q : ∀ c H', Kp [] H H' → H' c = some (.tup (xs.take k)) → Q (.ref c) H') : rSlA K (.ref a) none (some (k : Int)) H Q := by
  refine ⟨a, xs, rfl, SqT.of h, fun e => q a H Kp.refl ?_, fun _ p hp => q p _ (Kp.new hp) (by rw [upd_same, cut_take])⟩
  rw [HT.sIx_nat] at e
  rw [List.take_of_length_le (by omega)]
  exact h
theorem r_slD {k : Nat} (h : H a = some (.tup xs)) (q : ∀ c H', Kp [] H H' → H' c = some (.tup (xs.drop k)) → Q (.ref c) H') : rSlA K (.ref a) (some (k : Int)) none H Q := by
  refine ⟨a, xs, rfl, SqT.of h, fun e => q a H Kp.refl ?_, fun _ p hp => q p _ (Kp.new hp) (by rw [upd_same, cut_drop])⟩
  rw [HT.sIx_nat] at e
  by_cases e2 : xs = []
  · subst e2
    rw [h, List.drop_nil]
  · have := List.length_pos_iff.mpr e2
    have : k = 0 := by omega
    rw [this, List.drop_zero]
    exact h
theorem r_no {σ : FT} {R : Option Int → Hp → Prop} (h : R none H) : tNoPart σ H R := h
theorem r_slD' {k : Nat} {i : Int} (hi : i = (k : Int)) (h : H a = some (.tup xs)) (q : ∀ c H', Kp [] H H' → H' c = some (.tup (xs.drop k)) → Q (.ref c) H') : rSlA K (.ref a) (some i) none H Q := by subst hi; exact r_slD h q
theorem r_catV (h1 : H a = some (.tup xs)) (h2 : H b = some (.tup ys)) (hl : xs.length + ys.length ≤ sizeLine) (q : ∀ c H', Kp [] H H' → H' c = some (.tup (xs ++ ys)) → Q (.ref c) H') : rCatA K (.ref a) (.ref b) H Q := by
  refine ⟨a, b, _, _, rfl, rfl, SqT.of h1, SqT.of h2, hl, fun e => ?_, fun e1 e2 => ?_, fun e1 e2 p hp => q _ _ (Kp.new hp) upd_same⟩
  · subst e
    exact q _ _ Kp.refl h2
  · subst e2
    exact q _ _ Kp.refl (by rw [List.append_nil]; exact h1)
end
theorem splice {α : Type} {xs : List α} {a : Nat} {v : α} (h : a < xs.length) : xs.take a ++ [v] ++ xs.drop (a + 1) = xs.set a v := by
  rw [List.set_eq_take_append_cons_drop, if_pos h, List.append_assoc]
  rfl
theorem set_rel {α β : Type} {R : α → β → Prop} {xs : List α} {ys : List β} {a : Nat} {v : α} {y : β} (hl : xs.length = ys.length) (h : ∀ (i : Nat) p q, xs[i]? = some p → ys[i]? = some q → R p q) (hv : R v y) : ∀ (i : Nat) p q, (xs.set a v)[i]? = some p → (ys.set a y)[i]? = some q → R p q := by
  intro i p q e1 e2
  by_cases e : a = i
  · subst e
    have h1 := (List.getElem?_eq_some_iff.mp e1).1
    rw [List.length_set] at h1
    rw [List.getElem?_set_self h1] at e1
    rw [List.getElem?_set_self (by omega)] at e2
    injection e1 with e1
    injection e2 with e2
    subst e1
    subst e2
    exact hv
  · rw [List.getElem?_set_ne e] at e1 e2
    exact h i p q e1 e2
theorem StepsOk.setTel {nw : Nat} {tel : List Nat} {steps : List (List Nat)} (ok : StepsOk nw tel steps) (a x : Nat) (hx : x ≤ 9) : StepsOk nw (tel.set a x) steps :=
  ⟨by rw [List.length_set]; exact ok.one, fun t ht => (List.mem_or_eq_of_mem_set ht).elim (ok.nine t) fun e => e ▸ hx, by rw [List.length_set]; exact ok.len, fun gs hgs => by rw [List.length_set]; exact ok.each gs hgs⟩
theorem StepsOk.setSteps {nw : Nat} {tel : List Nat} {steps : List (List Nat)} (ok : StepsOk nw tel steps) (a : Nat) (gs' : List Nat) (h : gs'.length = nw ∧ ∀ g ∈ gs', g < tel.length) : StepsOk nw tel (steps.set a gs') :=
  ⟨ok.one, ok.nine, by rw [List.length_set]; exact ok.len, fun gs hgs => (List.mem_or_eq_of_mem_set hgs).elim (ok.each gs) fun e => e ▸ h⟩
theorem r_seqA {te : TE} {u : TS} {D : Ends} {σ : FT} {H : Hp} {i : Nat} (h : te σ H fun x H1 => u D (σ.set i (some x)) H1) : tSeq (tAsg te (gName i)) u D σ H := h
theorem r_g {i : Nat} {v : V} {σ : FT} {H : Hp} {R : FT → Hp → Prop} (h : R (σ.set i (some v)) H) : gName i v σ H R := h
theorem r_pair {te1 te2 : TE} {D : Ends} {σ : FT} {H : Hp} (h : te1 σ H fun x H1 => te2 σ H1 fun y H2 => (2 : Nat) ≤ sizeLine ∧ ∀ p, H2 p = none → D.rt (.ref p) (upd H2 p (.tup [x, y]))) : tRet (tTup (tCons te1 (tCons te2 tNil))) D σ H := h
end LW
namespace LW
/-! ### rows as numbers -/
def enc (B : Nat) (row : List Nat) : Nat := row.foldl (fun a x => a * B + x) 0
theorem enc_snoc (B : Nat) (r : List Nat) (w : Nat) : enc B (r ++ [w]) = enc B r * B + w := by unfold enc; rw [List.foldl_append]; rfl
theorem enc_lt {B : Nat} : ∀ {a b : List Nat} {x y : Nat}, a.length = b.length → (∀ i ∈ a, i < B) → x < y → a.foldl (fun a x => a * B + x) x < b.foldl (fun a x => a * B + x) y
  | [], [], _, _, _, _, h => h
  | [], _ :: _, _, _, e, _, _ => by cases e
  | _ :: _, [], _, _, e, _, _ => by cases e
  | p :: a, q :: b, x, y, e, h, hxy => by
    rw [List.foldl_cons, List.foldl_cons]
    refine enc_lt (by simpa using e) (fun i hi => h i (List.mem_cons_of_mem _ hi)) ?_
    have h1 := h p List.mem_cons_self
    have h2 : (x + 1) * B ≤ y * B := Nat.mul_le_mul_right B hxy
    rw [Nat.add_mul, Nat.one_mul] at h2
    omega
open PySem PySem.Spec PyProof.Rows L2 RZ in
theorem lex_enc {B : Nat} : ∀ {a b : List Nat} {x : Nat}, a.length = b.length → (∀ i ∈ a, i < B) → a ≠ b → HT.lexLt (iz a) (iz b) = true → a.foldl (fun a x => a * B + x) x < b.foldl (fun a x => a * B + x) x
  | [], [], _, _, _, h, _ => absurd rfl h
  | [], _ :: _, _, e, _, _, _ => by cases e
  | _ :: _, [], _, e, _, _, _ => by cases e
  | p :: a, q :: b, x, e, h, ne, hl => by
    rw [List.foldl_cons, List.foldl_cons]
    have hl' : HT.lexLt ((p : Int) :: iz a) ((q : Int) :: iz b) = true := hl
    rw [HT.lexLt_cons] at hl'
    by_cases hpq : p = q
    · subst hpq
      rw [if_pos rfl] at hl'
      exact lex_enc (by simpa using e) (fun i hi => h i (List.mem_cons_of_mem _ hi)) (fun e => ne (by rw [e])) hl'
    · rw [if_neg (by omega)] at hl'
      have h2 := of_decide_eq_true hl'
      exact enc_lt (by simpa using e) (fun i hi => h i (List.mem_cons_of_mem _ hi)) (by omega)
/-! ### one layer -/
section
variable {α : Type} [DecidableEq α] {S : Sys α}
def runS (S : Sys α) (s : α) (row : List Nat) : α := row.foldl S.next s
theorem runS_snoc (s : α) (row : List Nat) (w : Nat) : runS S s (row ++ [w]) = S.next (runS S s row) w := by unfold runS; rw [List.foldl_append]; rfl
structure PInv (S : Sys α) (known : List α) (k t : Nat) (Dn : List Nat × α → Nat → Prop) (acc : List α × List (List Nat × α)) : Prop where
  sub : ∀ a ∈ known, a ∈ acc.1
  src : ∀ a ∈ acc.1, a ∈ known ∨ ∃ r, (r, a) ∈ acc.2
  inn : ∀ p ∈ acc.2, p.2 ∈ acc.1
  rows : ∀ p ∈ acc.2, p.1.length = k + 1 ∧ (∀ i ∈ p.1, i < S.nw) ∧ enc S.nw p.1 < t
  asc : acc.2.Pairwise fun p q => enc S.nw p.1 < enc S.nw q.1
  cov : ∀ q w, Dn q w → S.next q.2 w ∈ known ∨ ∃ r, (r, S.next q.2 w) ∈ acc.2 ∧ enc S.nw r ≤ enc S.nw q.1 * S.nw + w
theorem PInv.add {known : List α} {k t : Nat} {Dn : List Nat × α → Nat → Prop} {acc : List α × List (List Nat × α)} (P : PInv S known k t Dn acc) {p : List Nat × α} {w : Nat} (ht : t ≤ enc S.nw p.1 * S.nw + w) (hl : p.1.length = k) (hv : ∀ i ∈ p.1, i < S.nw) (hw : w < S.nw) :
    PInv S known k (enc S.nw p.1 * S.nw + w + 1) (fun q w' => Dn q w' ∨ (q = p ∧ w' = w)) (S.add p acc w) := by
  unfold Sys.add
  by_cases h : S.next p.2 w ∈ acc.1
  · rw [if_pos h]
    refine ⟨P.sub, P.src, P.inn, fun q hq => ⟨(P.rows q hq).1, (P.rows q hq).2.1, by have := (P.rows q hq).2.2; omega⟩, P.asc, fun q w' hd => ?_⟩
    rcases hd with hd | ⟨rfl, rfl⟩
    · exact P.cov q w' hd
    · rcases P.src _ h with h | ⟨r, hr⟩
      · exact .inl h
      · exact .inr ⟨r, hr, by have := (P.rows _ hr).2.2; dsimp only at this; omega⟩
  · rw [if_neg h]
    refine ⟨fun a ha => List.mem_append_left _ (P.sub a ha), fun a ha => ?_, fun q hq => ?_, fun q hq => ?_, ?_, fun q w' hd => ?_⟩
    · rcases List.mem_append.mp ha with ha | ha
      · rcases P.src a ha with h | ⟨r, hr⟩
        · exact .inl h
        · exact .inr ⟨r, List.mem_append_left _ hr⟩
      · rw [List.mem_singleton.mp ha]
        exact .inr ⟨p.1 ++ [w], by simp⟩
    · rcases List.mem_append.mp hq with hq | hq
      · exact List.mem_append_left _ (P.inn q hq)
      · rw [List.mem_singleton.mp hq]; simp
    · rcases List.mem_append.mp hq with hq | hq
      · exact ⟨(P.rows q hq).1, (P.rows q hq).2.1, by have := (P.rows q hq).2.2; omega⟩
      · rw [List.mem_singleton.mp hq]
        refine ⟨by simp [hl], fun i hi => ?_, by rw [enc_snoc]; omega⟩
        rcases List.mem_append.mp hi with hi | hi
        · exact hv i hi
        · rw [List.mem_singleton.mp hi]; exact hw
    · rw [List.pairwise_append]
      refine ⟨P.asc, List.pairwise_singleton _ _, fun a ha b hb => ?_⟩
      rw [List.mem_singleton.mp hb, enc_snoc]
      have := (P.rows a ha).2.2
      omega
    · rcases hd with hd | ⟨rfl, rfl⟩
      · rcases P.cov q w' hd with h | ⟨r, hr, h2⟩
        · exact .inl h
        · exact .inr ⟨r, List.mem_append_left _ hr, h2⟩
      · exact .inr ⟨q.1 ++ [w'], by simp, by rw [enc_snoc]; exact Nat.le_refl _⟩
theorem PInv.upTo {known : List α} {k t : Nat} {Dn : List Nat × α → Nat → Prop} {acc : List α × List (List Nat × α)} (P : PInv S known k t Dn acc) {p : List Nat × α} (ht : t ≤ enc S.nw p.1 * S.nw) (hl : p.1.length = k) (hv : ∀ i ∈ p.1, i < S.nw) : ∀ w, w ≤ S.nw →
    PInv S known k (enc S.nw p.1 * S.nw + w) (fun q w' => Dn q w' ∨ (q = p ∧ w' < w)) (S.upTo p acc w)
  | 0, _ => ⟨P.sub, P.src, P.inn, fun q hq => ⟨(P.rows q hq).1, (P.rows q hq).2.1, by have := (P.rows q hq).2.2; omega⟩, P.asc, fun q w' hd => P.cov q w' (hd.elim id fun h => absurd h.2 (Nat.not_lt_zero _))⟩
  | w + 1, hw => by
    rw [S.upTo_succ]
    have h := (PInv.upTo P ht hl hv w (by omega)).add (p := p) (w := w) (Nat.le_refl _) hl hv (by omega)
    refine ⟨h.sub, h.src, h.inn, h.rows, h.asc, fun q w' hd => h.cov q w' ?_⟩
    rcases hd with hd | ⟨e, hlt⟩
    · exact .inl (.inl hd)
    · by_cases hw' : w' = w
      · exact .inr ⟨e, hw'⟩
      · exact .inl (.inr ⟨e, by omega⟩)
/-- what is known ahead of a layer -/
structure LInv (S : Sys α) (s0 : α) (k : Nat) (E : α → Prop) (known : List α) (layer : List (List Nat × α)) : Prop where
  kn : ∀ a ∈ known, E a ∨ ∃ r, (r, a) ∈ layer
  good : ∀ a, E a → S.bad a = false
  clo : ∀ a, E a → ∀ w, w < S.nw → S.next a w ∈ known
  rows : ∀ p ∈ layer, p.1.length = k ∧ ∀ i ∈ p.1, i < S.nw
  asc : layer.Pairwise fun p q => enc S.nw p.1 < enc S.nw q.1
  cov : ∀ row, row.length = k → (∀ i ∈ row, i < S.nw) → E (runS S s0 row) ∨ ∃ r, (r, runS S s0 row) ∈ layer ∧ enc S.nw r ≤ enc S.nw row
theorem PInv.part {known : List α} {k : Nat} {layer : List (List Nat × α)} (rows : ∀ p ∈ layer, p.1.length = k ∧ ∀ i ∈ p.1, i < S.nw) (asc : layer.Pairwise fun p q => enc S.nw p.1 < enc S.nw q.1) :
    ∀ i, i ≤ layer.length → ∃ t, (∀ p, layer[i]? = some p → t ≤ enc S.nw p.1 * S.nw) ∧ PInv S known k t (fun q w => q ∈ layer.take i ∧ w < S.nw) (S.part known layer i)
  | 0, _ => ⟨0, fun _ _ => Nat.zero_le _, ⟨fun a h => h, fun a h => .inl h, fun p h => absurd h List.not_mem_nil, fun p h => absurd h List.not_mem_nil, List.Pairwise.nil, fun q w h => by simp at h⟩⟩
  | i + 1, hi => by
    obtain ⟨t, ht, P⟩ := PInv.part (known := known) rows asc i (by omega)
    have e : layer[i]? = some layer[i] := List.getElem?_eq_getElem (by omega)
    have hr := rows _ (List.mem_of_getElem? e)
    have h := P.upTo (ht _ e) hr.1 hr.2 S.nw (Nat.le_refl _)
    rw [S.upTo_all, ← S.part_succ e] at h
    refine ⟨_, fun p ep => ?_, ⟨h.sub, h.src, h.inn, h.rows, h.asc, fun q w hd => h.cov q w ?_⟩⟩
    · obtain ⟨h2, ep⟩ := List.getElem?_eq_some_iff.mp ep
      have h3 := List.pairwise_iff_getElem.mp asc i (i + 1) (by omega) h2 (Nat.lt_succ_self i)
      rw [ep] at h3
      have h4 : (enc S.nw layer[i].1 + 1) * S.nw ≤ enc S.nw p.1 * S.nw := Nat.mul_le_mul_right _ h3
      rw [Nat.add_mul, Nat.one_mul] at h4
      exact h4
    · rw [List.take_add_one, e, Option.toList_some, List.mem_append, List.mem_singleton] at hd
      rcases hd.1 with h1 | h1
      · exact .inl ⟨h1, hd.2⟩
      · exact .inr ⟨h1, hd.2⟩
theorem LInv.next {s0 : α} {k : Nat} {E : α → Prop} {known : List α} {layer : List (List Nat × α)} (L : LInv S s0 k E known layer) (hb : ∀ p ∈ layer, S.bad p.2 = false) : LInv S s0 (k + 1) (· ∈ known) (S.layer known layer).1 (S.layer known layer).2 := by
  obtain ⟨t, _, P⟩ := PInv.part (known := known) L.rows L.asc layer.length (Nat.le_refl _)
  rw [S.part_all, List.take_length] at P
  refine ⟨P.src, fun a ha => ?_, fun a ha w hw => ?_, fun p hp => ⟨(P.rows p hp).1, (P.rows p hp).2.1⟩, P.asc, fun row hl hv => ?_⟩
  · rcases L.kn a ha with h | ⟨r, hr⟩
    · exact L.good a h
    · exact hb _ hr
  · rcases L.kn a ha with h | ⟨r, hr⟩
    · exact P.sub _ (L.clo a h w hw)
    · rcases P.cov (r, a) w ⟨hr, hw⟩ with h | ⟨r2, hr2, _⟩
      · exact P.sub _ h
      · exact P.inn _ hr2
  · have hne : row ≠ [] := fun e => by rw [e] at hl; simp at hl
    obtain ⟨pre, w, rfl⟩ : ∃ pre w, row = pre ++ [w] := ⟨row.dropLast, row.getLast hne, (List.dropLast_concat_getLast hne).symm⟩
    rw [runS_snoc, enc_snoc]
    have hw := hv w (by simp)
    rcases L.cov pre (by simpa using hl) fun i hi => hv i (List.mem_append_left _ hi) with h | ⟨r, hr, h2⟩
    · exact .inl (L.clo _ h w hw)
    · rcases P.cov _ w ⟨hr, hw⟩ with h | ⟨r2, hr2, h3⟩
      · exact .inl h
      · refine .inr ⟨r2, hr2, ?_⟩
        dsimp only at h3
        have := Nat.mul_le_mul_right S.nw h2
        omega
/-- ahead of a row: shorter, or as long and lesser -/
def Ahead (B : Nat) (row r : List Nat) : Prop := row.length < r.length ∨ (row.length = r.length ∧ enc B row < enc B r)
theorem run_in {s0 : α} {E : α → Prop} (clo : ∀ a, E a → ∀ w, w < S.nw → E (S.next a w)) : ∀ (row : List Nat) {s : α}, E s → (∀ i ∈ row, i < S.nw) → E (runS S s row)
  | [], _, h, _ => h
  | w :: row, s, h, hv => run_in (s0 := s0) clo row (s := S.next s w) (clo s h w (hv w List.mem_cons_self)) fun i hi => hv i (List.mem_cons_of_mem _ hi)
theorem Bfs.right {G : List α → List (List Nat × α) → Prop} {s0 : α} {n : Nat} {known : List α} {layer : List (List Nat × α)} {res : Option (List Nat)} (B : Bfs S G n known layer res) : ∀ {k : Nat} {E : α → Prop}, LInv S s0 k E known layer → ∀ row, k ≤ row.length → (∀ i ∈ row, i < S.nw) →
    (res = none ∨ ∃ r, res = some r ∧ Ahead S.nw row r) → S.bad (runS S s0 row) = false := by
  induction B with
  | done =>
    intro k E L row hk hv _
    have hE : ∀ a, E a → ∀ w, w < S.nw → E (S.next a w) := fun a h w hw => (L.kn _ (L.clo a h w hw)).elim id fun ⟨r, hr⟩ => absurd hr List.not_mem_nil
    have h1 : E (runS S s0 (row.take k)) := (L.cov (row.take k) (by rw [List.length_take]; omega) fun i hi => hv i (List.mem_of_mem_take hi)).elim id fun ⟨r, hr, _⟩ => absurd hr List.not_mem_nil
    have h2 := run_in (s0 := s0) hE (row.drop k) h1 fun i hi => hv i (List.mem_of_mem_drop hi)
    have e : runS S (runS S s0 (row.take k)) (row.drop k) = runS S s0 row := by unfold runS; rw [← List.foldl_append, List.take_append_drop]
    rw [e] at h2
    exact L.good _ h2
  | hit g hpre hb =>
    rename_i n known pre r0 s post
    intro k E L row hk hv hres
    rcases hres with h | ⟨r, hr, ha⟩
    · cases h
    · injection hr with hr
      subst hr
      have hlen := (L.rows (r0, s) (by simp)).1
      dsimp only at hlen
      rcases ha with ha | ⟨ha1, ha2⟩
      · omega
      · rcases L.cov row (by omega) hv with h | ⟨r', hr', h2⟩
        · exact L.good _ h
        · rcases List.mem_append.mp hr' with h | h
          · exact hpre _ h
          · exfalso
            have hp := (List.pairwise_append.mp L.asc).2.1
            rcases List.mem_cons.mp h with h | h
            · injection h with h3 _
              subst h3
              omega
            · have := (List.pairwise_cons.mp hp).1 _ h
              dsimp only at this
              omega
  | step g hne hall B ih =>
    intro k E L row hk hv hres
    by_cases hkl : row.length = k
    · rcases L.cov row hkl hv with h | ⟨r', hr', _⟩
      · exact L.good _ h
      · exact hall _ hr'
    · exact ih (L.next hall) row (by omega) hv hres
theorem LInv.start (s0 : α) : LInv S s0 0 (fun _ => False) [s0] [([], s0)] :=
  ⟨fun a ha => .inr ⟨[], by rw [List.mem_singleton.mp ha]; simp⟩, fun _ h => h.elim, fun _ h => h.elim, fun p hp => by rw [List.mem_singleton.mp hp]; simp, List.pairwise_singleton _ _, fun row h _ => .inr ⟨[], by rw [List.length_eq_zero_iff.mp h]; simp [runS], by rw [List.length_eq_zero_iff.mp h]; exact Nat.le_refl _⟩⟩
end
end LW
namespace LW
theorem nodup_le {α : Type} [DecidableEq α] : ∀ {l U : List α}, l.Nodup → (∀ a ∈ l, a ∈ U) → l.length ≤ U.length
  | [], U, _, _ => Nat.zero_le _
  | a :: l, U, h, hs => by
    rw [List.nodup_cons] at h
    have ha := hs a List.mem_cons_self
    have ih := nodup_le (l := l) (U := U.erase a) h.2 fun b hb => (List.mem_erase_of_ne fun e : b = a => h.1 (by rw [← e]; exact hb)).mpr (hs b (List.mem_cons_of_mem _ hb))
    rw [List.length_erase_of_mem ha] at ih
    have := List.length_pos_of_mem ha
    rw [List.length_cons]
    omega
section
variable {α : Type} [DecidableEq α] {S : Sys α}
/-! ### the closure ends -/
theorem meet_all {Ok : α → Prop} {s : α} {found : List α} {w : Nat} (h : ∀ a ∈ found, Ok a) (hn : Ok (S.next s w)) : ∀ a ∈ meet S s found w, Ok a := by
  unfold meet
  split
  · exact h
  · intro a ha
    rcases List.mem_append.mp ha with h1 | h1
    · exact h a h1
    · rw [List.mem_singleton.mp h1]; exact hn
theorem mUpTo_all_ok {Ok : α → Prop} (hok : ∀ a w, Ok a → w < S.nw → Ok (S.next a w)) {s : α} {found : List α} (h : ∀ a ∈ found, Ok a) (hs : Ok s) : ∀ k, k ≤ S.nw → ∀ a ∈ mUpTo S found s k, Ok a
  | 0, _ => h
  | k + 1, hk => by rw [mUpTo_succ]; exact meet_all (mUpTo_all_ok hok h hs k (by omega)) (hok s k hs (by omega))
theorem met_ex {Ok : α → Prop} (U : List α) (hU : ∀ a, Ok a → a ∈ U) (hl : U.length ≤ 10000) (hok : ∀ a w, Ok a → w < S.nw → Ok (S.next a w)) : ∀ (m i : Nat) (found : List α), U.length - i ≤ m → found.Nodup → (∀ a ∈ found, Ok a) → ∃ n res, Met S (FewM Ok) n i found res
  | m, i, found, hm, nd, hf => by
    have hle := nodup_le nd fun a ha => hU a (hf a ha)
    by_cases hi : found.length ≤ i
    · exact ⟨0, found, .done ⟨by omega, hf⟩ hi⟩
    · have e : found[i]? = some found[i] := List.getElem?_eq_getElem (by omega)
      have hs := hf _ (List.mem_of_getElem? e)
      match m, hm with
      | 0, hm => omega
      | m + 1, hm =>
        obtain ⟨n, res, M⟩ := met_ex U hU hl hok m (i + 1) (meets S found found[i]) (by omega) (upTo_nodup nd _) (mUpTo_all_ok hok hf hs S.nw (Nat.le_refl _))
        exact ⟨n + 1, res, .step ⟨by omega, hf⟩ e M⟩
/-! ### the search ends -/
structure AInv (Ok : α → Prop) (base L : Nat) (acc : List α × List (List Nat × α)) : Prop where
  nd : acc.1.Nodup
  ok : ∀ a ∈ acc.1, Ok a
  len : acc.1.length = base + acc.2.length
  rows : ∀ p ∈ acc.2, p.1.length ≤ L + 1 ∧ Ok p.2
theorem AInv.add {Ok : α → Prop} {base L : Nat} {acc : List α × List (List Nat × α)} (A : AInv Ok base L acc) {p : List Nat × α} {w : Nat} (hp : p.1.length ≤ L) (hn : Ok (S.next p.2 w)) : AInv Ok base L (S.add p acc w) := by
  unfold Sys.add
  by_cases h : S.next p.2 w ∈ acc.1
  · rw [if_pos h]; exact A
  · rw [if_neg h]
    refine ⟨?_, fun a ha => ?_, by simp [A.len]; omega, fun q hq => ?_⟩
    · rw [List.nodup_append]
      exact ⟨A.nd, by simp, fun a ha b hb e => h (by rw [List.mem_singleton.mp hb] at e; rw [← e]; exact ha)⟩
    · rcases List.mem_append.mp ha with h1 | h1
      · exact A.ok a h1
      · rw [List.mem_singleton.mp h1]; exact hn
    · rcases List.mem_append.mp hq with h1 | h1
      · exact A.rows q h1
      · rw [List.mem_singleton.mp h1]; exact ⟨by simp; omega, hn⟩
theorem AInv.upTo {Ok : α → Prop} (hok : ∀ a w, Ok a → w < S.nw → Ok (S.next a w)) {base L : Nat} {acc : List α × List (List Nat × α)} (A : AInv Ok base L acc) {p : List Nat × α} (hp : p.1.length ≤ L) (hs : Ok p.2) : ∀ k, k ≤ S.nw → AInv Ok base L (S.upTo p acc k)
  | 0, _ => A
  | k + 1, hk => by rw [S.upTo_succ]; exact (AInv.upTo hok A hp hs k (by omega)).add hp (hok _ _ hs (by omega))
theorem AInv.layer {Ok : α → Prop} (hok : ∀ a w, Ok a → w < S.nw → Ok (S.next a w)) {base L : Nat} : ∀ (layer : List (List Nat × α)) {acc : List α × List (List Nat × α)}, AInv Ok base L acc → (∀ p ∈ layer, p.1.length ≤ L ∧ Ok p.2) → AInv Ok base L (layer.foldl S.expand acc)
  | [], _, A, _ => A
  | p :: layer, acc, A, h => by
    have h1 := h p List.mem_cons_self
    exact AInv.layer hok layer (acc := S.expand acc p) (AInv.upTo hok A h1.1 h1.2 S.nw (Nat.le_refl _)) fun q hq => h q (List.mem_cons_of_mem _ hq)
theorem first_bad (S : Sys α) : ∀ layer : List (List Nat × α), (∀ p ∈ layer, S.bad p.2 = false) ∨ ∃ pre row s post, layer = pre ++ (row, s) :: post ∧ (∀ p ∈ pre, S.bad p.2 = false) ∧ S.bad s = true
  | [] => .inl fun p h => absurd h List.not_mem_nil
  | (r, s) :: layer => by
    cases hb : S.bad s with
    | true => exact .inr ⟨[], r, s, layer, rfl, fun p h => absurd h List.not_mem_nil, hb⟩
    | false =>
      rcases first_bad S layer with h | ⟨pre, row, s', post, e, h1, h2⟩
      · exact .inl fun p hp => (List.mem_cons.mp hp).elim (fun e => e ▸ hb) (h p)
      · exact .inr ⟨(r, s) :: pre, row, s', post, by rw [e]; rfl, fun p hp => (List.mem_cons.mp hp).elim (fun e => e ▸ hb) (h1 p), h2⟩
theorem bfs_ex {Ok : α → Prop} (U : List α) (hU : ∀ a, Ok a → a ∈ U) (hl : U.length ≤ 5000) (hok : ∀ a w, Ok a → w < S.nw → Ok (S.next a w)) : ∀ (m : Nat) (known : List α) (layer : List (List Nat × α)), U.length - known.length ≤ m → known.Nodup → (∀ a ∈ known, Ok a) → layer.length ≤ known.length →
    (∀ p ∈ layer, p.1.length ≤ known.length ∧ Ok p.2) → ∃ n res, Bfs S (Few Ok) n known layer res
  | m, known, layer, hm, nd, hk, hll, hr => by
    have hle := nodup_le nd fun a ha => hU a (hk a ha)
    have few : Few Ok known layer := ⟨by omega, by omega, fun p hp => ⟨by have := (hr p hp).1; omega, (hr p hp).2⟩⟩
    by_cases hn : layer = []
    · subst hn
      exact ⟨0, none, .done⟩
    rcases first_bad S layer with h | ⟨pre, row, s, post, e, h1, h2⟩
    · have A := AInv.layer hok (base := known.length) (L := known.length) layer (acc := (known, [])) ⟨nd, hk, by simp, fun p h => absurd h List.not_mem_nil⟩ hr
      change AInv Ok known.length known.length (S.layer known layer) at A
      by_cases hl2 : (S.layer known layer).2 = []
      · refine ⟨1, none, .step few hn h ?_⟩
        rw [hl2]
        exact .done
      · have hpos := List.length_pos_iff.mpr hl2
        have hlen := A.len
        have hle2 := nodup_le A.nd fun a ha => hU a (A.ok a ha)
        match m, hm with
        | 0, hm => omega
        | m + 1, hm =>
          obtain ⟨n, res, B⟩ := bfs_ex U hU hl hok m (S.layer known layer).1 (S.layer known layer).2 (by omega) A.nd A.ok (by omega) fun p hp => ⟨by have := (A.rows p hp).1; omega, (A.rows p hp).2⟩
          exact ⟨n + 1, res, .step few hn h B⟩
    · subst e
      exact ⟨0, some row, .hit few h1 h2⟩
end
/-! ### two searches that are alike -/
section
variable {α β : Type} [DecidableEq α] [DecidableEq β] {S : Sys α} {T : Sys β} {Ok : α → Prop} {f : α → β}
def mapAcc (f : α → β) (acc : List α × List (List Nat × α)) : List β × List (List Nat × β) := (acc.1.map f, acc.2.map fun p => (p.1, f p.2))
structure Alike (S : Sys α) (T : Sys β) (Ok : α → Prop) (f : α → β) : Prop where
  nw : T.nw = S.nw
  inj : ∀ a b, Ok a → Ok b → f a = f b → a = b
  ok : ∀ a w, Ok a → w < S.nw → Ok (S.next a w)
  next : ∀ a w, Ok a → w < S.nw → f (S.next a w) = T.next (f a) w
  bad : ∀ a, Ok a → S.bad a = T.bad (f a)
theorem Alike.add (A : Alike S T Ok f) {acc : List α × List (List Nat × α)} {p : List Nat × α} {w : Nat} (ha : ∀ a ∈ acc.1, Ok a) (hp : Ok p.2) (hw : w < S.nw) : mapAcc f (S.add p acc w) = T.add (p.1, f p.2) (mapAcc f acc) w ∧ ∀ a ∈ (S.add p acc w).1, Ok a := by
  have hn := A.ok p.2 w hp hw
  have e : T.next (f p.2) w ∈ (mapAcc f acc).1 ↔ S.next p.2 w ∈ acc.1 := by
    rw [← A.next p.2 w hp hw]
    constructor
    · intro h
      obtain ⟨a, h1, h2⟩ := List.mem_map.mp h
      rw [← A.inj a _ (ha a h1) hn h2]
      exact h1
    · intro h; exact List.mem_map.mpr ⟨_, h, rfl⟩
  unfold Sys.add
  by_cases h : S.next p.2 w ∈ acc.1
  · rw [if_pos h, if_pos (e.mpr h)]
    exact ⟨rfl, ha⟩
  · rw [if_neg h, if_neg (fun x => h (e.mp x))]
    refine ⟨?_, fun a h1 => ?_⟩
    · unfold mapAcc
      simp only [List.map_append, List.map_cons, List.map_nil, A.next p.2 w hp hw]
    · rcases List.mem_append.mp h1 with h1 | h1
      · exact ha a h1
      · rw [List.mem_singleton.mp h1]; exact hn
theorem Alike.upTo (A : Alike S T Ok f) {acc : List α × List (List Nat × α)} {p : List Nat × α} (ha : ∀ a ∈ acc.1, Ok a) (hp : Ok p.2) : ∀ k, k ≤ S.nw → mapAcc f (S.upTo p acc k) = T.upTo (p.1, f p.2) (mapAcc f acc) k ∧ ∀ a ∈ (S.upTo p acc k).1, Ok a
  | 0, _ => ⟨rfl, ha⟩
  | k + 1, hk => by
    rw [S.upTo_succ, T.upTo_succ]
    have h := Alike.upTo A ha hp k (by omega)
    have h2 := A.add (p := p) (w := k) h.2 hp (by omega)
    rw [h.1] at h2
    exact h2
theorem Alike.layer (A : Alike S T Ok f) : ∀ (layer : List (List Nat × α)) {acc : List α × List (List Nat × α)}, (∀ a ∈ acc.1, Ok a) → (∀ p ∈ layer, Ok p.2) → mapAcc f (layer.foldl S.expand acc) = (layer.map fun p => (p.1, f p.2)).foldl T.expand (mapAcc f acc) ∧ ∀ a ∈ (layer.foldl S.expand acc).1, Ok a
  | [], _, ha, _ => ⟨rfl, ha⟩
  | p :: layer, acc, ha, hl => by
    have h := A.upTo (p := p) ha (hl p List.mem_cons_self) S.nw (Nat.le_refl _)
    have h2 := Alike.layer A layer (acc := S.expand acc p) h.2 fun q hq => hl q (List.mem_cons_of_mem _ hq)
    rw [List.map_cons, List.foldl_cons, List.foldl_cons]
    refine ⟨?_, h2.2⟩
    rw [h2.1]
    have e : mapAcc f (S.expand acc p) = T.expand (mapAcc f acc) (p.1, f p.2) := by
      rw [← S.upTo_all, h.1, ← A.nw, T.upTo_all]
    rw [e]
theorem Alike.items (S : Sys α) : ∀ (layer : List (List Nat × α)) {acc : List α × List (List Nat × α)}, (∀ p ∈ acc.2, p.2 ∈ acc.1) → ∀ p ∈ (layer.foldl S.expand acc).2, p.2 ∈ (layer.foldl S.expand acc).1
  | [], _, h => h
  | p :: layer, acc, h => by
    refine Alike.items S layer (acc := S.expand acc p) ?_
    rw [← S.upTo_all]
    generalize S.nw = k
    induction k with
    | zero => exact h
    | succ k ih =>
      rw [S.upTo_succ]
      unfold Sys.add
      split
      · exact ih
      · intro q hq
        rcases List.mem_append.mp hq with h1 | h1
        · exact List.mem_append_left _ (ih q h1)
        · rw [List.mem_singleton.mp h1]; simp
theorem bfs_map {OkT : β → Prop} (A : Alike S T Ok f) (hOk : ∀ a, Ok a → OkT (f a)) {n : Nat} {known : List α} {layer : List (List Nat × α)} {res : Option (List Nat)} (B : Bfs S (Few Ok) n known layer res) : (∀ a ∈ known, Ok a) → Bfs T (Few OkT) n (known.map f) (layer.map fun p => (p.1, f p.2)) res := by
  have few : ∀ {known layer}, Few Ok known layer → Few OkT (known.map f) (layer.map fun p => (p.1, f p.2)) := fun h => ⟨by rw [List.length_map]; exact h.1, by rw [List.length_map]; exact h.2.1, fun p hp => by
    obtain ⟨q, hq, rfl⟩ := List.mem_map.mp hp
    exact ⟨(h.2.2 q hq).1, hOk _ (h.2.2 q hq).2⟩⟩
  induction B with
  | done => exact fun _ => .done
  | hit g h1 h2 =>
    intro hk
    have g' := few g
    rw [List.map_append, List.map_cons] at g' ⊢
    refine .hit g' (fun p hp => ?_) (by rw [← A.bad _ (g.2.2 (_, _) (by simp)).2]; exact h2)
    obtain ⟨q, hq, rfl⟩ := List.mem_map.mp hp
    rw [← A.bad _ (g.2.2 q (List.mem_append_left _ hq)).2]
    exact h1 q hq
  | step g hn h1 B ih =>
    intro hk
    rename_i n known layer res
    have hl : ∀ p ∈ layer, Ok p.2 := fun p hp => (g.2.2 p hp).2
    have h := A.layer layer (acc := (known, [])) hk hl
    have ih' := ih h.2
    have e := h.1
    refine .step (few g) (fun e => hn (List.map_eq_nil_iff.mp e)) (fun p hp => ?_) ?_
    · obtain ⟨q, hq, rfl⟩ := List.mem_map.mp hp
      rw [← A.bad _ (hl q hq)]
      exact h1 q hq
    · unfold Sys.layer at ih' ⊢
      have e2 : mapAcc f (known, []) = (List.map f known, []) := rfl
      rw [e2] at e
      rw [← e]
      exact ih'
end
end LW
namespace LW
section
variable {M : Mach}
theorem met_of (ok : M.Ok) : ∃ n order, Met (sysM M) (FewM (Fit M.many)) n 0 [M.first] order :=
  met_ex (S := sysM M) (Ok := Fit M.many) (allN M.many) (fun a h => mem_allN.mpr h) (by rw [len_allN]; have := ok.sm.prod; omega) (fun a w h hw => ok.next hw h) _ 0 [M.first] (Nat.le_refl _) (by simp) fun a h => by rw [List.mem_singleton.mp h]; exact ok.first
theorem ord_small (ok : M.Ok) {order : List (List Nat)} (oo : OrdOk M order) : order.length ≤ 36 := by
  have h := nodup_le oo.nd fun a ha => mem_allN.mpr (oo.fit a ha)
  rw [len_allN] at h
  have := ok.sm.prod
  omega
def boxU : List (Nat × Nat) := (List.range 12).flatMap fun s => (List.range 36).map fun i => (s, i)
theorem box_len : boxU.length = 432 := by decide +kernel
theorem box_mem {s i : Nat} (hs : s < 12) (hi : i < 36) : (s, i) ∈ boxU := by
  unfold boxU
  simp only [List.mem_flatMap, List.mem_map, List.mem_range]
  exact ⟨s, hs, i, hi, rfl⟩
theorem ord_get {order : List (List Nat)} {i : Nat} (h : i < order.length) : order[i]? = some (order.getD i []) := get_of h
theorem step_of {order : List (List Nat)} {i w : Nat} (h : i < order.length) (hw : w < M.ws.length) : step1 (stepsOf M order) i w = order.idxOf (M.next (order.getD i []) w) := by
  unfold step1
  rw [getD_of (steps_at (ord_get h)), List.getD_eq_getElem?_getD, List.getElem?_map, List.getElem?_range hw]
  rfl
theorem alike (ok : M.Ok) {tel : List Nat} {steps : List (List Nat)} (sok : StepsOk M.ws.length tel steps) {order : List (List Nat)} (oo : OrdOk M order) :
    Alike (sysP tel steps (telOf M order) (stepsOf M order) M.ws.length) (sysB tel steps M) (okP tel (telOf M order)) (fun p => (p.1, order.getD p.2 [])) := by
  have lt : ∀ {a : Nat × Nat}, okP tel (telOf M order) a → a.2 < order.length := fun h => by have := h.2; rw [tel_len] at this; exact this
  refine ⟨rfl, fun a b ha hb e => ?_, fun a w h hw => ⟨step1_lt sok h.1 hw, step1_lt (oo.steps ok) h.2 hw⟩, fun a w h hw => ?_, fun a h => ?_⟩
  · injection e with e1 e2
    have h1 := nd_idx oo.nd (lt ha)
    have h2 := nd_idx oo.nd (lt hb)
    have g1 := (List.getElem?_eq_some_iff.mp (ord_get (lt ha))).2
    have g2 := (List.getElem?_eq_some_iff.mp (ord_get (lt hb))).2
    rw [g1] at h1
    rw [g2] at h2
    rw [← e2, h1] at h2
    exact Prod.ext e1 h2
  · have hl := lt h
    have mem := List.mem_of_getElem? (ord_get hl)
    show (step1 steps a.1 w, order.getD (step1 (stepsOf M order) a.2 w) []) = (step1 steps a.1 w, M.next (order.getD a.2 []) w)
    have hw' : w < M.ws.length := hw
    rw [step_of hl hw', getD_of (idx_at (oo.closed _ mem w hw'))]
  · have hl := lt h
    show decide (tel.getD a.1 0 ≠ (telOf M order).getD a.2 0) = decide (tel.getD a.1 0 ≠ M.tl (order.getD a.2 []))
    rw [getD_of (tel_at (ord_get hl))]
theorem run_pair (tel : List Nat) (steps : List (List Nat)) : ∀ (row : List Nat) (s : Nat) (ns : List Nat), runS (sysB tel steps M) (s, ns) row = (stoodM steps s row, M.run ns row)
  | [], _, _ => rfl
  | w :: row, s, ns => run_pair tel steps row (step1 steps s w) (M.next ns w)
theorem ahead_of {B : Nat} {row r : List Nat} (hv : ∀ i ∈ row, i < B) (h : nestLt (row.length : Nat) (iz row) (r.length : Nat) (iz r) = true) : Ahead B row r := by
  unfold nestLt at h
  by_cases e : (row.length : Int) = (r.length : Int)
  · rw [if_pos e, Bool.and_eq_true] at h
    have hl : row.length = r.length := by omega
    refine .inr ⟨hl, lex_enc hl hv (fun e2 => ?_) h.2⟩
    rw [e2] at h
    simp at h
  · rw [if_neg e] at h
    have := of_decide_eq_true h
    exact .inl (by omega)
theorem law_facts (ok : M.Ok) {tel : List Nat} {steps : List (List Nat)} (sok : StepsOk M.ws.length tel steps) (t12 : tel.length ≤ 12) {order : List (List Nat)} (oo : OrdOk M order) :
    ∃ n res, Bfs (sysB tel steps M) (Few (okB tel M)) n [(0, M.first)] [([], (0, M.first))] res ∧ Bfs (sysP tel steps (telOf M order) (stepsOf M order) M.ws.length) (Few (okP tel (telOf M order))) n [(0, 0)] [([], (0, 0))] res ∧
      ∀ row, (∀ i ∈ row, i < M.ws.length) → (res = none ∨ ∃ r, res = some r ∧ nestLt (row.length : Nat) (iz row) (r.length : Nat) (iz r) = true) → tel.getD (stoodM steps 0 row) 0 = M.tl (M.run M.first row) := by
  have o1 := (List.getElem?_eq_some_iff.mp oo.first).1
  have A := alike ok sok oo
  have ok0 : okP tel (telOf M order) (0, 0) := ⟨sok.one, by rw [tel_len]; exact o1⟩
  obtain ⟨n, res, B⟩ := bfs_ex (S := sysP tel steps (telOf M order) (stepsOf M order) M.ws.length) (Ok := okP tel (telOf M order)) boxU
    (fun a h => box_mem (Nat.lt_of_lt_of_le h.1 t12) (by have h2 := h.2; rw [tel_len] at h2; have := ord_small ok oo; omega)) (by rw [box_len]; decide) A.ok _ [(0, 0)] [([], (0, 0))] (Nat.le_refl _) (by simp) (fun a h => by rw [List.mem_singleton.mp h]; exact ok0) (by simp)
    (fun p h => by rw [List.mem_singleton.mp h]; exact ⟨Nat.zero_le _, ok0⟩)
  have B2 := bfs_map A (OkT := okB tel M) (fun a h => ⟨h.1, oo.fit _ (List.mem_of_getElem? (ord_get (by have := h.2; rw [tel_len] at this; exact this)))⟩) B (fun a h => by rw [List.mem_singleton.mp h]; exact ok0)
  have e0 : order.getD 0 [] = M.first := getD_of oo.first
  simp only [List.map_cons, List.map_nil, e0] at B2
  refine ⟨n, res, B2, B, fun row hv hres => ?_⟩
  have h := B2.right (LInv.start (S := sysB tel steps M) (0, M.first)) row (Nat.zero_le _) hv (hres.imp_right fun ⟨r, e, h⟩ => ⟨r, e, ahead_of hv h⟩)
  rw [run_pair] at h
  exact Decidable.not_not.mp (of_decide_eq_false h)
end
end LW
namespace LW
open PySem PySem.Spec PyProof.Rows L2 RZ
section
variable {P : Program} {w : World} {K : PySem.W.Frag} {mg : Str → Option Value} {base : Heap} {COffice CBook CRawBook CMachine C0 fe : Addr} {fde : FuncData}
abbrev s_is_integer : Stmt := top 8
theorem sc_is_integer : FnScope ["thing"] ["thing"] (defScope s_is_integer) := ⟨rfl, rfl, rfl, by decide +kernel, rfl, by decide +kernel, by decide +kernel⟩
theorem ok_is_integer {f : Addr} {fd : FuncData} (F : Fun K "is_integer" "is_integer" s_is_integer f fd) (Tx : Txt mg)  : FnOk P w K mg base CX0 1 f fd ["thing"] sp_is_integer := by
  refine F.ok sc_is_integer (fun vs H Q E h => ?_) (fun cdv A outer s H vs Q E hr h => ?_)
  · obtain ⟨i, rfl, k⟩ := h
    rfl
  · obtain ⟨i, rfl, k⟩ := h
    refine ⟨_, (pss_one (ps_ret (pe_and (pe_callB (kcall_isi (K := K)) (by rfl) Tx.b_isinstance (by decide +kernel) (pa_cons (pv 0) (pa_cons (pe_ty "int" (by rfl) Tx.b_int (by decide +kernel)) pa_nil))) (pe_one (pe_not (pe_callB (kcall_isi (K := K)) (by rfl) Tx.b_isinstance (by decide +kernel) (pa_cons (pv 0) (pa_cons (pe_ty "bool" (by rfl) Tx.b_bool (by decide +kernel)) pa_nil)))))))), ?_⟩
    refine ⟨_, rfl, _, _, _, _, true, rfl, .ty _, .base (.int i), kit_ty (by decide +kernel), true, rfl, ?_⟩
    refine iteT ?_
    exact ⟨_, rfl, _, _, _, _, false, rfl, .ty _, .base (.int i), kit_ty (by decide +kernel), false, rfl, k H Kp.refl⟩

abbrev s_is_within : Stmt := top 9
theorem sc_is_within : FnScope ["thing", "least", "most"] ["thing", "least", "most"] (defScope s_is_within) := ⟨rfl, rfl, rfl, by decide +kernel, rfl, by decide +kernel, by decide +kernel⟩
theorem ok_is_within {f : Addr} {fd : FuncData} (F : Fun K "is_within" "is_within" s_is_within f fd) (Tx : Txt mg) (G_is_integer : Gf P w K mg base "is_integer" ["thing"] 1 sp_is_integer) : FnOk P w K mg base CX0 2 f fd ["thing", "least", "most"] sp_is_within := by
  refine F.ok sc_is_within (fun vs H Q E h => ?_) (fun cdv A outer s H vs Q E hr h => ?_)
  · obtain ⟨i, a, b, rfl, k⟩ := h
    rfl
  · obtain ⟨i, a, b, rfl, k⟩ := h
    refine ⟨_, (pss_one (ps_ret (pe_and (pe_g G_is_integer (hr.mono (by decide)) (by rfl) (pa_cons (pv 0) pa_nil)) (pe_one (pe_chain op_le op_le (pv 1) (pv 0) (pv 2)))))), ?_⟩
    refine ⟨_, rfl, i, rfl, fun H1 k1 => ⟨true, rfl, iteT ?_⟩⟩
    refine ⟨_, rfl, _, rfl, a, i, rfl, rfl, decide (a ≤ i), rfl, ?_⟩
    by_cases h1 : a ≤ i
    · rw [decide_eq_true h1]
      refine iteT ⟨_, rfl, i, b, rfl, rfl, ?_⟩
      have e : decide (i ≤ b) = decide (a ≤ i ∧ i ≤ b) := by simp [h1]
      show Q (.bl (decide (i ≤ b))) _
      rw [e]
      exact k _ k1
    · rw [decide_eq_false h1]
      refine iteF ?_
      have e : false = decide (a ≤ i ∧ i ≤ b) := by simp [h1]
      rw [e]
      exact k _ k1

abbrev s_is_lot : Stmt := top 10
theorem sc_is_lot : FnScope ["thing", "below", "item", "at"] ["thing", "below"] (defScope s_is_lot) := ⟨rfl, rfl, rfl, by decide +kernel, rfl, by decide +kernel, by decide +kernel⟩
theorem ok_is_lot {f : Addr} {fd : FuncData} (F : Fun K "is_lot" "is_lot" s_is_lot f fd) (Tx : Txt mg) (G_is_within : Gf P w K mg base "is_within" ["thing", "least", "most"] 2 sp_is_within) : FnOk P w K mg base CX0 3 f fd ["thing", "below"] sp_is_lot := by
  refine F.ok sc_is_lot (fun vs H Q E h => ?_) (fun cdv A outer s H vs Q E hr h => ?_)
  · obtain ⟨v, ns, d, rfl, ⟨a, rfl, ha⟩, ok, hl, k⟩ := h
    rfl
  · obtain ⟨v, ns, d, rfl, ⟨a, rfl, ha⟩, ok, hl, k⟩ := h
    refine ⟨_, (pss_cons (ps_if (PW.pt (pw_or (pt_not (pt_val (pe_callB (kcall_isi (K := K)) (by rfl) Tx.b_isinstance (by decide +kernel) (pa_cons (pv 0) (pa_cons (pe_ty "tuple" (by rfl) Tx.b_tuple (by decide +kernel)) pa_nil))))) (pw_or1 (pt_not (pt_val (pe_callB (kcr_all (K := K) rfl) (by rfl) Tx.b_all (by decide +kernel) (pa_cons (pe_lc (own := [("item", 2)]) (g := gName 2) (tt := tYes) rfl sc_is_lot.nd (kpi_tup (K := K) (pv 0)) (blkOk_by (own := [("item", 2)]) (N := ["thing", "below", "item", "at"]) (sc := (defScope s_is_lot)) (by decide +kernel)) (fun _ _ _ _ _ => (pg_name (i := 2) sc_is_lot.nd rfl (Or.inl rfl))) (fun _ _ _ _ _ => pts_nil) (fun _ _ _ _ _ => (pe_g G_is_within (hr.mono (by decide)) (by rfl) (pa_cons (pv 2) (pa_cons pe_int (pa_cons (pe_op op_sub (pv 1) pe_int) pa_nil)))))) pa_nil))))))) (pss_one (ps_ret pe_bl)) pss_nil)
        (pss_one (ps_ret (pe_callB (kcr_all (K := K) rfl) (by rfl) Tx.b_all (by decide +kernel) (pa_cons (pe_lc (own := [("at", 3)]) (g := gName 3) (tt := tYes) rfl sc_is_lot.nd (pi_range2 (by rfl) Tx.b_range (pa_cons pe_int (pa_cons (pe_callB (kcall_len (K := K)) (by rfl) Tx.b_len (by decide +kernel) (pa_cons (pv 0) pa_nil)) pa_nil))) (blkOk_by (own := [("at", 3)]) (N := ["thing", "below", "item", "at"]) (sc := (defScope s_is_lot)) (by decide +kernel)) (fun _ _ _ _ _ => (pg_name (i := 3) sc_is_lot.nd rfl (Or.inl rfl))) (fun _ _ _ _ _ => pts_nil) (fun _ _ _ _ _ => (pe_cmpR op_lt (pe_ix (kix_tup (K := K)) (pv 0) (pe_op op_sub (pv 3) pe_int) (fun _ _ => rfl)) (pe_ix (kix_tup (K := K)) (pv 0) (pv 3) (fun _ _ => rfl)) (nomark _)))) pa_nil))))), ?_⟩
    refine ⟨_, rfl, _, _, _, _, true, rfl, .ty _, .base (.tup ha), kit_ty (by decide +kernel), true, rfl, iteF ?_⟩
    refine t_all (walk_tup (K := K) (a := a) (xs := vz ns)) (ch := []) (fun R q => ⟨_, rfl, a, rfl, ⟨_, SqT.of ha⟩, q⟩) no_ch (by rw [vz_len]; omega) (fun H1 k1 => SqT.of (k1.tup ha)) yk_at ?_ ?_
    · rintro i x H1 H2 Q' hi k1 ⟨rfl, hx⟩ q
      obtain ⟨n, hn, rfl⟩ := vz_of hx
      have hlt := ok.lt n (List.mem_of_getElem? hn)
      refine ⟨rfl, _, rfl, _, rfl, _, _, rfl, rfl, _, _, _, rfl, fun H3 k3 => ?_⟩
      have e : decide ((0 : Int) ≤ (n : Int) ∧ (n : Int) ≤ (d : Int) - 1) = true := decide_eq_true (by omega)
      rw [e]
      exact q H3 k3
    · intro H1 k1
      refine ⟨true, rfl, iteF ?_⟩
      dsimp only [tNext, tRet]
      refine t_all (walk_range (lo := 1) (n := ((ns.length : Int) - 1).toNat)) (ch := []) (H1 := H1) (fun R q => ⟨_, rfl, a, _, rfl, .inr (SqT.of (k1.tup ha)), 1, _, rfl, by rw [vz_len]; omega, by rw [vz_len]; exact q⟩) no_ch (by omega) (fun _ _ => trivial) yk_fn ?_ ?_
      · rintro i x H2 H3 Q' hi k2 ⟨rfl, rfl⟩ q
        have h1 : i < ns.length := by omega
        have h2 : i + 1 < ns.length := by omega
        have up := ok.up i _ _ (List.getElem?_eq_getElem h1) (List.getElem?_eq_getElem h2)
        have hm := (k1.trans k2).tup ha
        refine ⟨rfl, _, rfl, _, rfl, _, _, rfl, rfl, _, _, _, _, rfl, rfl, SqT.of hm, at_of (j := i) (by omega) (vz_some (List.getElem?_eq_getElem h1)), ?_⟩
        refine ⟨_, rfl, _, rfl, _, _, _, _, rfl, rfl, SqT.of hm, at_of (j := i + 1) (by omega) (vz_some (List.getElem?_eq_getElem h2)), _, _, rfl, rfl, ?_⟩
        have e : decide ((ns[i] : Int) < (ns[i + 1] : Int)) = true := decide_eq_true (by omega)
        exact qv (q _ Kp.refl) (congrArg V.bl e)
      · intro H2 k2
        exact k H2 (k1.trans k2)

abbrev s_are_works : Stmt := top 14
theorem sc_are_works : FnScope ["desks", "thing", "lot"] ["desks", "thing"] (defScope s_are_works) := ⟨rfl, rfl, rfl, by decide +kernel, rfl, by decide +kernel, by decide +kernel⟩
theorem ok_are_works {f : Addr} {fd : FuncData} (F : Fun K "are_works" "are_works" s_are_works f fd) (Tx : Txt mg) (G_is_lot : Gf P w K mg base "is_lot" ["thing", "below"] 3 sp_is_lot) : FnOk P w K mg base CX0 4 f fd ["desks", "thing"] sp_are_works := by
  refine F.ok sc_are_works (fun vs H Q E h => ?_) (fun cdv A outer s H vs Q E hr h => ?_)
  · obtain ⟨v, d, ws, rfl, ⟨a, xs, rfl, ha, hl, hx⟩, ok, h10, k⟩ := h
    rfl
  · obtain ⟨v, d, ws, rfl, ⟨a, xs, rfl, ha, hl, hx⟩, ok, h10, k⟩ := h
    refine ⟨_, (pss_cons (ps_if (PW.pt (pw_or (pt_not (pt_val (pe_callB (kcall_isi (K := K)) (by rfl) Tx.b_isinstance (by decide +kernel) (pa_cons (pv 1) (pa_cons (pe_ty "tuple" (by rfl) Tx.b_tuple (by decide +kernel)) pa_nil))))) (pw_or1 (pt_not (pt_chain op_le op_le pe_int (pe_callB (kcall_len (K := K)) (by rfl) Tx.b_len (by decide +kernel) (pa_cons (pv 1) pa_nil)) (pe_const (by rfl) Tx.c_MOST_WORKS)))))) (pss_one (ps_ret pe_bl)) pss_nil)
        (pss_one (ps_ret (pe_callB (kcr_all (K := K) rfl) (by rfl) Tx.b_all (by decide +kernel) (pa_cons (pe_lc (own := [("lot", 2)]) (g := gName 2) (tt := tYes) rfl sc_are_works.nd (kpi_tup (K := K) (pv 1)) (blkOk_by (own := [("lot", 2)]) (N := ["desks", "thing", "lot"]) (sc := (defScope s_are_works)) (by decide +kernel)) (fun _ _ _ _ _ => (pg_name (i := 2) sc_are_works.nd rfl (Or.inl rfl))) (fun _ _ _ _ _ => pts_nil) (fun _ _ _ _ _ => (pe_and (pe_g G_is_lot (hr.mono (by decide)) (by rfl) (pa_cons (pv 2) (pa_cons (pv 0) pa_nil))) (pe_one (pe_cmpR op_gt (pe_callB (kcall_len (K := K)) (by rfl) Tx.b_len (by decide +kernel) (pa_cons (pv 2) pa_nil)) pe_int (nomark _)))))) pa_nil))))), ?_⟩
    have w1 := ok.w1
    have w10 := ok.w10
    refine ⟨_, rfl, _, _, _, _, true, rfl, .ty _, .base (.tup ha), kit_ty (by decide +kernel), true, rfl, iteF ?_⟩
    refine ⟨_, rfl, a, xs, rfl, .inr (SqT.of ha), 1, _, rfl, rfl, true, by rw [hl]; simp; omega, iteT ⟨_, _, rfl, rfl, true, by rw [hl]; simp; omega, iteF ?_⟩⟩
    dsimp only [tNext, tRet]
    refine t_all (walk_tup (K := K) (a := a) (xs := xs)) (ch := []) (fun R q => ⟨_, rfl, a, rfl, ⟨_, SqT.of ha⟩, q⟩) no_ch (by omega) (fun H1 k1 => SqT.of (k1.tup ha)) yk_at ?_ ?_
    · rintro i x H1 H2 Q' hi k1 ⟨rfl, hx1⟩ q
      have hi2 : i < ws.length := by omega
      have t1 := (hx i x _ hx1 (List.getElem?_eq_getElem hi2)).tk k1.tk
      have lo := ok.lots _ (List.getElem_mem hi2)
      refine ⟨rfl, _, rfl, _, rfl, _, _, _, rfl, t1, lo, h10 _ (List.getElem_mem hi2), fun H3 k3 => ?_⟩
      obtain ⟨b, rfl, hb⟩ := t1.tk k3.tk
      refine ⟨true, rfl, iteT ⟨_, rfl, b, _, rfl, .inr (SqT.of hb), _, _, rfl, rfl, ?_⟩⟩
      refine qv (q _ k3) (congrArg V.bl ?_)
      have := List.length_pos_iff.mpr lo.ne
      rw [vz_len]
      simp
      omega
    · intro H1 k1
      exact k H1 k1

abbrev s_Office_init : Stmt := inClass (top 15) 0
theorem sc_Office_init : FnScope ["self", "desks", "works", "desk", "lot", "work", "other"] ["self", "desks", "works"] (defScope s_Office_init) := ⟨rfl, rfl, rfl, by decide +kernel, rfl, by decide +kernel, by decide +kernel⟩
theorem ok_Office_init {f : Addr} {fd : FuncData} (F : Fun K "__init__" "Office.__init__" s_Office_init f fd) (Tx : Txt mg) (fO : FO K COffice) (G_are_works : Gf P w K mg base "are_works" ["desks", "thing"] 4 sp_are_works) (G_is_within : Gf P w K mg base "is_within" ["thing", "least", "most"] 2 sp_is_within) : FnOk P w K mg base CX0 5 f fd ["self", "desks", "works"] (sp_Office_init K COffice) := by
  refine F.ok sc_Office_init (fun vs H Q E h => ?_) (fun cdv A outer s H vs Q E hr h => ?_)
  · obtain ⟨p, dx, v, d, ws, rfl, hp, hT, ok, h10, k⟩ := h
    rfl
  · obtain ⟨p, dx, v, d, ws, rfl, hp, hT, ok, h10, k⟩ := h
    refine ⟨_, (pss_cons (ps_if (pt_not (pt_val (pe_g G_is_within (hr.mono (by decide)) (by rfl) (pa_cons (pv 1) (pa_cons pe_int (pa_cons (pe_const (by rfl) Tx.c_MOST_DESKS) pa_nil)))))) (pss_one ps_never) pss_nil)
        (pss_cons (ps_if (pt_not (pt_val (pe_g G_are_works (hr.mono (by decide)) (by rfl) (pa_cons (pv 1) (pa_cons (pv 2) pa_nil))))) (pss_one ps_never) pss_nil)
        (pss_cons (ps_fld (pv 0) (pv 1) rfl)
        (pss_cons (ps_fld (pv 0) (pv 2) rfl)
        (pss_cons (ps_fld (pv 0) (pe_lst pa_nil) rfl)
        (pss_cons (ps_for PassesOwn.never rfl (pi_range1 (by rfl) Tx.b_range (pa_cons (pv 1) pa_nil)) (pg_name (i := 3) sc_Office_init.nd rfl (Or.inr rfl))
        (pss_one (ps_expr (kpe_bm (K := K) (pe_bm PySem.F.plainAttrs_list PySem.F.slot_list_append PySem.F.type_list_append mt_append (kpe_fld (K := K) (pv 0) rfl) (pa_cons (pe_callTy (kcall_tup (K := K)) (by rfl) Tx.b_tuple (by decide +kernel) (pa_cons (pe_lc (own := [("work", 5), ("lot", 4)]) (g := gTup K 2 (gCons (gName 5) (gCons (gName 4) gNil))) (tt := _) rfl sc_Office_init.nd (kpi_enumT (K := K) (by rfl) Tx.b_enumerate (pa_cons (pv 2) pa_nil)) (blkOk_by (own := [("work", 5), ("lot", 4)]) (N := ["self", "desks", "works", "desk", "lot", "work", "other"]) (sc := (defScope s_Office_init)) (by decide +kernel)) (fun _ _ _ _ _ => (kpg_tup (K := K) rfl (pgs_cons (pg_name (i := 5) sc_Office_init.nd rfl (Or.inl rfl)) (pgs_cons (pg_name (i := 4) sc_Office_init.nd rfl (Or.inl rfl)) pgs_nil)))) (fun _ _ _ _ _ => (pts_one (pt_cmpR (kop_in (K := K)) (pv 3) (pv 4) (by rfl)))) (fun _ _ _ _ _ => (pv 5))) pa_nil)) pa_nil))))))
        (pss_cons (ps_fld (pv 0) (pe_lst pa_nil) rfl)
        (pss_one (ps_for PassesOwn.never rfl (kpi_tup (K := K) (pv 2)) (pg_name (i := 4) sc_Office_init.nd rfl (Or.inr rfl))
        (pss_one (ps_expr (kpe_bm (K := K) (pe_bm PySem.F.plainAttrs_list PySem.F.slot_list_append PySem.F.type_list_append mt_append (kpe_fld (K := K) (pv 0) rfl) (pa_cons (pe_lc (own := [("other", 6)]) (g := gName 6) (tt := tYes) rfl sc_Office_init.nd (kpi_tup (K := K) (pv 2)) (blkOk_by (own := [("other", 6)]) (N := ["self", "desks", "works", "desk", "lot", "work", "other"]) (sc := (defScope s_Office_init)) (by decide +kernel)) (fun _ _ _ _ _ => (pg_name (i := 6) sc_Office_init.nd rfl (Or.inr rfl))) (fun _ _ _ _ _ => pts_nil) (fun _ _ _ _ _ => (pe_callB (kcr_any (K := K) rfl) (by rfl) Tx.b_any (by decide +kernel) (pa_cons (pe_lc (own := [("desk", 3)]) (g := gName 3) (tt := tYes) rfl sc_Office_init.nd (kpi_tup (K := K) (pv 4)) (blkOk_by (own := [("desk", 3)]) (N := ["self", "desks", "works", "desk", "lot", "work", "other"]) (sc := (relS (compScope (cx_Office_init)) (defScope s_Office_init))) (by decide +kernel)) (fun _ _ _ _ _ => (pg_name (i := 3) sc_Office_init.nd rfl (Or.inl rfl))) (fun _ _ _ _ _ => pts_nil) (fun _ _ _ _ _ => (pe_cmpR (kop_in (K := K)) (pv 3) (pv 6) (by rfl)))) pa_nil)))) pa_nil)))))))))))))), ?_⟩
    have d1 := ok.d1
    have d4 := ok.d4
    have np : ∀ xs, H p ≠ some (.tup xs) := fun xs e => by rw [hp] at e; cases e
    refine ⟨_, rfl, _, _, _, rfl, fun H1 k1 => ⟨true, congrArg V.bl (decide_eq_true (by omega)), iteF ?_⟩⟩
    dsimp only [tNext, tSeq]
    refine ⟨_, rfl, _, rfl, _, d, ws, rfl, hT.tk k1.tk, ok, h10, fun H2 k2 => ⟨true, rfl, iteF ?_⟩⟩
    dsimp only [tNext, tSeq]
    have kk := k1.trans k2
    refine ⟨_, rfl, _, rfl, p, _, dx, _, rfl, kk.get hp, fO.cl, fO.desks, by decide, ?_⟩
    refine ⟨_, rfl, _, rfl, p, _, dx, _, rfl, upd_same, fO.cl, fO.works, by have := len_putF "desks" (.int (d : Int)) []; simp at this; omega, ?_⟩
    have k3 : Kp [p] H (upd (upd H2 p (.ins COffice dx (putF "desks" (.int (d : Int)) []))) p (.ins COffice dx (putF "works" v (putF "desks" (.int (d : Int)) [])))) := (kk.any.trans (Kp.refl.put List.mem_cons_self fun xs e => by rw [kk.get hp] at e; cases e)).trans (Kp.refl.put List.mem_cons_self fun xs e => by rw [upd_same] at e; cases e)
    have p3 : (upd (upd H2 p (.ins COffice dx (putF "desks" (.int (d : Int)) []))) p (.ins COffice dx (putF "works" v (putF "desks" (.int (d : Int)) [])))) p = some (.ins COffice dx (putF "works" v (putF "desks" (.int (d : Int)) []))) := upd_same
    generalize upd (upd H2 p (.ins COffice dx (putF "desks" (.int (d : Int)) []))) p (.ins COffice dx (putF "works" v (putF "desks" (.int (d : Int)) []))) = H3 at k3 p3
    have q1 : (putF "works" v (putF "desks" (.int (d : Int)) [])).lookup ("desks" : Str) = some (.int (d : Int)) := by rw [lookup_putF, if_neg (by decide +kernel), lookup_putF, if_pos rfl]
    have q2 : (putF "works" v (putF "desks" (.int (d : Int)) [])).lookup ("works" : Str) = some v := by rw [lookup_putF, if_pos rfl]
    have q3 : (putF "works" v (putF "desks" (.int (d : Int)) [])).length ≤ 2 := by have e1 := len_putF "desks" (.int (d : Int)) []; have e2 := len_putF "works" v (putF "desks" (.int (d : Int)) []); simp at e1; omega
    generalize putF "works" v (putF "desks" (.int (d : Int)) []) = F0 at p3 q1 q2 q3
    obtain ⟨a, xs, rfl, ha, hl, hx⟩ := hT
    have w10 := ok.w10
    refine ⟨Nat.zero_le _, fun l1 n1 => ?_⟩
    have k3' : Kp [p] H (upd H3 l1 (.lst [])) := k3.new' n1
    have p3' : (upd H3 l1 (.lst [])) p = some (.ins COffice dx F0) := by rw [upd_ne (ne_of2 p3 n1)]; exact p3
    refine ⟨_, rfl, p, _, dx, _, rfl, p3', fO.cl, fO.own, by omega, ?_⟩
    have n1' : H l1 = none := k3.free _ n1
    have pl : p ≠ l1 := ne_of2 p3 n1
    have k4 : Kp [p] H (upd (upd H3 l1 (.lst [])) p (.ins COffice dx (putF "kept_own" (.ref l1) F0))) := k3'.trans (Kp.refl.put List.mem_cons_self fun xs e => by rw [p3'] at e; cases e)
    have p4 : (upd (upd H3 l1 (.lst [])) p (.ins COffice dx (putF "kept_own" (.ref l1) F0))) p = some (.ins COffice dx (putF "kept_own" (.ref l1) F0)) := upd_same
    have l4 : (upd (upd H3 l1 (.lst [])) p (.ins COffice dx (putF "kept_own" (.ref l1) F0))) l1 = some (.lst []) := by rw [upd_ne (Ne.symm pl), upd_same]
    generalize upd (upd H3 l1 (.lst [])) p (.ins COffice dx (putF "kept_own" (.ref l1) F0)) = H4 at k4 p4 l4
    have r1 : (putF "kept_own" (.ref l1) F0).lookup ("desks" : Str) = some (.int (d : Int)) := by rw [lookup_putF, if_neg (by decide +kernel)]; exact q1
    have r2 : (putF "kept_own" (.ref l1) F0).lookup ("works" : Str) = some (.ref a) := by rw [lookup_putF, if_neg (by decide +kernel)]; exact q2
    have r3 : (putF "kept_own" (.ref l1) F0).lookup ("kept_own" : Str) = some (.ref l1) := by rw [lookup_putF, if_pos rfl]
    have r4 := len_putF "kept_own" (.ref l1) F0
    generalize putF "kept_own" (.ref l1) F0 = F1 at p4 r1 r2 r3 r4
    refine ⟨_, rfl, _, rfl, by omega, by omega, ?_⟩
    refine for_it (walk_range (lo := 0) (n := (d : Int).toNat)) (fun i σ H' => Kp [p] H H' ∧ H' p = some (.ins COffice dx F1) ∧ (∃ ys, H' l1 = some (.lst ys) ∧ ys.length ≤ i) ∧ ∃ x, σ = [some (.ref p), some (.int (d : Int)), some (.ref a), x, none, none, none]) ⟨k4, p4, ⟨[], l4, Nat.le_refl _⟩, none, rfl⟩ (fun _ _ _ _ _ => trivial) ?_ ?_
    · rintro i x σ H6 H5 hi ⟨k5, p5, ⟨ys, l5, hy⟩, z, rfl⟩ ⟨rfl, rfl⟩
      refine ⟨_, rfl, p, _, dx, _, _, rfl, p5, fO.cl, fO.own, r3, .inl ⟨rfl, ys, SqL.of l5⟩, ?_⟩
      refine t_tupW (walk_enumT (K := K) (a := a) (xs := xs)) (ch := []) (H1 := H5) (fun R q => ⟨_, rfl, a, xs, rfl, SqT.of (k5.tup ha), q⟩) (fun _ _ _ => True) no_ch (by omega) (fun H7 k7 => SqT.of ((k5.trans k7.any).tup ha)) (fun _ _ => trivial) ?_ ?_
      · rintro D j x H7 H8 zs QT QF hD hj k7 hzs _ ⟨T, x1, y1, rfl, hT, rfl, e1, hx1⟩ qT qF
        have hj2 : j < ws.length := by omega
        obtain ⟨b, rfl, hb⟩ := (hx j _ _ hx1 (List.getElem?_eq_getElem hj2)).tk (k5.trans k7.any).tk
        have hb2 : (upd H7 T (.tup [x1, .ref b])) b = some (.tup (vz ws[j])) := by rw [upd_ne (ne_of2 hb hT)]; exact hb
        refine ⟨T, _, rfl, SqT.of upd_same, rfl, _, _, rfl, _, _, rfl, rfl, ?_⟩
        refine ⟨rfl, _, rfl, _, rfl, b, _, rfl, .inr (SqT.of hb2), rfl, flat_vz _, _, rfl, ?_⟩
        exact ite2 ⟨_, rfl, qT _ _ (Kp.new hT) trivial⟩ (qF _ (Kp.new hT) trivial)
      · intro D zs H7 q hD k7 hzs hl7 _ hq
        have l7 := k7.get l5
        have p7 := k7.get p5
        refine ⟨l1, ys, _, rfl, rfl, by rw [upd_ne (ne_of2 l7 hq)]; exact l7, size_lt (by omega), ?_⟩
        have k8 := (k5.trans k7.any).new' (o := .tup zs) hq
        refine ⟨k8.mut n1', by rw [upd_ne pl, upd_ne (ne_of2 p7 hq)]; exact p7, ⟨_, upd_same, by rw [List.length_append]; exact Nat.add_le_add_right hy 1⟩, _, rfl⟩
    rintro σ H5 ⟨k5, p5, ⟨ys, l5, hy⟩, z, rfl⟩
    refine ⟨Nat.zero_le _, fun l2 n2 => ?_⟩
    have p5' : (upd H5 l2 (.lst [])) p = some (.ins COffice dx F1) := by rw [upd_ne (ne_of2 p5 n2)]; exact p5
    refine ⟨_, rfl, p, _, dx, _, rfl, p5', fO.cl, fO.meets, by omega, ?_⟩
    have n2' : H l2 = none := k5.free _ n2
    have pl2 : p ≠ l2 := ne_of2 p5 n2
    have k6 : Kp [p] H (upd (upd H5 l2 (.lst [])) p (.ins COffice dx (putF "kept_meets" (.ref l2) F1))) := (k5.new' n2).trans (Kp.refl.put List.mem_cons_self fun xs e => by rw [p5'] at e; cases e)
    have p6 : (upd (upd H5 l2 (.lst [])) p (.ins COffice dx (putF "kept_meets" (.ref l2) F1))) p = some (.ins COffice dx (putF "kept_meets" (.ref l2) F1)) := upd_same
    have l6 : (upd (upd H5 l2 (.lst [])) p (.ins COffice dx (putF "kept_meets" (.ref l2) F1))) l2 = some (.lst []) := by rw [upd_ne (Ne.symm pl2), upd_same]
    generalize upd (upd H5 l2 (.lst [])) p (.ins COffice dx (putF "kept_meets" (.ref l2) F1)) = H6 at k6 p6 l6
    have s1 : (putF "kept_meets" (.ref l2) F1).lookup ("desks" : Str) = some (.int (d : Int)) := by rw [lookup_putF, if_neg (by decide +kernel)]; exact r1
    have s2 : (putF "kept_meets" (.ref l2) F1).lookup ("works" : Str) = some (.ref a) := by rw [lookup_putF, if_neg (by decide +kernel)]; exact r2
    have s3 : (putF "kept_meets" (.ref l2) F1).lookup ("kept_meets" : Str) = some (.ref l2) := by rw [lookup_putF, if_pos rfl]
    generalize putF "kept_meets" (.ref l2) F1 = F2 at p6 s1 s2 s3
    refine ⟨_, rfl, a, rfl, ⟨_, SqT.of (k6.tup ha)⟩, ?_⟩
    refine for_it (walk_tup (K := K) (a := a) (xs := xs)) (fun i σ H' => Kp [p] H H' ∧ H' p = some (.ins COffice dx F2) ∧ (∃ ys, H' l2 = some (.lst ys) ∧ ys.length ≤ i) ∧ ∃ x y, σ = [some (.ref p), some (.int (d : Int)), some (.ref a), x, y, none, none]) ⟨k6, p6, ⟨[], l6, Nat.le_refl _⟩, _, _, rfl⟩ (fun i σ H' hi q => SqT.of (q.1.tup ha)) ?_ ?_
    · rintro i x σ H8 H7 hi ⟨k7, p7, ⟨ys, l7, hy⟩, z1, z2, rfl⟩ ⟨rfl, hx1⟩
      have hi2 : i < ws.length := by omega
      obtain ⟨b, rfl, hb⟩ := (hx i _ _ hx1 (List.getElem?_eq_getElem hi2)).tk k7.tk
      have b10 := h10 _ (List.getElem_mem hi2)
      refine ⟨_, rfl, p, _, dx, _, _, rfl, p7, fO.cl, fO.meets, s3, .inl ⟨rfl, ys, SqL.of l7⟩, ?_⟩
      refine t_lc (walk_tup (K := K) (a := a) (xs := xs)) (ch := []) (H1 := H7) (fun R q => ⟨_, rfl, a, rfl, ⟨_, SqT.of (k7.tup ha)⟩, q⟩) (fun _ _ _ _ => True) no_ch (by omega) (fun H8 k8 => SqT.of ((k7.trans k8.any).tup ha)) yk_at (fun _ _ _ _ _ _ _ => trivial) ?_ ?_
      · rintro D j x H9 H8 Q' hD hj k8 ⟨rfl, hx2⟩ q
        have hj2 : j < ws.length := by omega
        obtain ⟨c, rfl, hc⟩ := (hx j _ _ hx2 (List.getElem?_eq_getElem hj2)).tk (k7.trans k8.any).tk
        refine ⟨rfl, ?_⟩
        refine t_anyB (walk_tup (K := K) (a := b) (xs := vz ws[i])) (ch := []) (H1 := H8) (fun R q => ⟨_, rfl, b, rfl, ⟨_, SqT.of (k8.tup hb)⟩, q⟩) no_ch (by rw [vz_len]; omega) (fun H9 k9 => SqT.of ((k8.trans k9).tup hb)) yk_at ?_ ?_
        · rintro m x H10 H9 Q2 hm k9 ⟨rfl, hx3⟩ q2
          obtain ⟨n, hn, rfl⟩ := vz_of hx3
          exact ⟨rfl, _, rfl, _, rfl, c, _, rfl, .inr (SqT.of (k9.tup hc)), rfl, flat_vz _, q2 _ _ Kp.refl⟩
        · exact fun b H9 k9 => q _ _ k9 trivial
      · intro D zs H8 hD k8 hzs hl8 _
        have l8 := k8.get l7
        refine ⟨l2, ys, _, rfl, rfl, l8, size_lt (by omega), ?_⟩
        exact ⟨(k7.trans k8.any).mut n2', by rw [upd_ne pl2]; exact k8.get p7, ⟨_, upd_same, by rw [List.length_append]; exact Nat.add_le_add_right hy 1⟩, _, _, rfl⟩
    rintro σ H7 ⟨k7, p7, ⟨ys, l7, hy⟩, z1, z2, rfl⟩
    exact k H7 k7 ⟨fO, dx, F2, _, p7, s1, s2, a, xs, rfl, k7.tup ha, hl, fun i x y e1 e2 => (hx i x y e1 e2).tk k7.tk⟩

abbrev s_Office_eq : Stmt := inClass (top 15) 1
theorem sc_Office_eq : FnScope ["self", "other"] ["self", "other"] (defScope s_Office_eq) := ⟨rfl, rfl, rfl, by decide +kernel, rfl, by decide +kernel, by decide +kernel⟩
theorem ok_Office_eq {f : Addr} {fd : FuncData} (F : Fun K "__eq__" "Office.__eq__" s_Office_eq f fd) (Tx : Txt mg) (T_Office : ClsF K mg "Office" COffice) : FnOk P w K mg base CX0 1 f fd ["self", "other"] (sp_Office_eq K COffice) := by
  refine F.ok sc_Office_eq (fun vs H Q E h => ?_) (fun cdv A outer s H vs Q E hr h => ?_)
  · obtain ⟨a, b, d, ws, rfl, ⟨fo, dx, fs, v, ha, h1, h2, h3⟩, ⟨_, dx', fs', v', hb, h1', h2', h3'⟩, k⟩ := h
    rfl
  · obtain ⟨a, b, d, ws, rfl, ⟨fo, dx, fs, v, ha, h1, h2, h3⟩, ⟨_, dx', fs', v', hb, h1', h2', h3'⟩, k⟩ := h
    refine ⟨_, (pss_one (ps_ret (pe_and (pe_callB (kcall_isi (K := K)) (by rfl) Tx.b_isinstance (by decide +kernel) (pa_cons (pv 1) (pa_cons (pe_cls (by rfl) T_Office.mg) pa_nil))) (pe_and (pe_cmpR op_eq (kpe_fld (K := K) (pv 0) rfl) (kpe_fld (K := K) (pv 1) rfl) (nomark _)) (pe_one (pe_cmpR (kop_eqD (K := K) hr.units) (kpe_fld (K := K) (pv 0) rfl) (kpe_fld (K := K) (pv 1) rfl) (nomark _))))))), ?_⟩
    refine ⟨_, rfl, _, _, _, _, true, rfl, .own _, T_Office.ty hb, kit_self, true, rfl, iteT ?_⟩
    refine ⟨_, rfl, _, _, _, _, _, rfl, ha, fo.cl, fo.desks, h1, _, rfl, _, _, _, _, _, rfl, hb, fo.cl, fo.desks, h1', rfl, true, by simp, iteT ?_⟩
    refine ⟨_, rfl, _, _, _, _, _, rfl, ha, fo.cl, fo.works, h2, _, rfl, _, _, _, _, _, rfl, hb, fo.cl, fo.works, h2', _, _, h3.dp, h3'.dp, sh_TT _, sh_TT _, ?_⟩
    exact qv (k H Kp.refl) (congrArg V.bl (eqv_TT ws))

abbrev s_is_work : Stmt := top 16
theorem sc_is_work : FnScope ["office", "thing"] ["office", "thing"] (defScope s_is_work) := ⟨rfl, rfl, rfl, by decide +kernel, rfl, by decide +kernel, by decide +kernel⟩
theorem ok_is_work {f : Addr} {fd : FuncData} (F : Fun K "is_work" "is_work" s_is_work f fd) (Tx : Txt mg) (G_is_within : Gf P w K mg base "is_within" ["thing", "least", "most"] 2 sp_is_within) : FnOk P w K mg base CX0 3 f fd ["office", "thing"] (sp_is_work K COffice) := by
  refine F.ok sc_is_work (fun vs H Q E h => ?_) (fun cdv A outer s H vs Q E hr h => ?_)
  · obtain ⟨o, d, i, ws, rfl, ⟨fo, dx, fs, v, ho, h1, h2, ⟨a, xs, rfl, ha, hl, hx⟩⟩, hi, k⟩ := h
    rfl
  · obtain ⟨o, d, i, ws, rfl, ⟨fo, dx, fs, v, ho, h1, h2, ⟨a, xs, rfl, ha, hl, hx⟩⟩, hi, k⟩ := h
    refine ⟨_, (pss_one (ps_ret (pe_g G_is_within (hr.mono (by decide)) (by rfl) (pa_cons (pv 1) (pa_cons pe_int (pa_cons (pe_op op_sub (pe_callB (kcall_len (K := K)) (by rfl) Tx.b_len (by decide +kernel) (pa_cons (kpe_fld (K := K) (pv 0) rfl) pa_nil)) pe_int) pa_nil)))))), ?_⟩
    refine ⟨_, rfl, _, rfl, _, _, dx, fs, _, rfl, ho, fo.cl, fo.works, h2, a, xs, rfl, .inr (SqT.of ha), _, _, rfl, rfl, _, _, _, rfl, fun H1 k1 => qv (k H1 k1) (congrArg V.bl (decide_eq_true ?_))⟩
    rw [hl]
    omega

abbrev s_is_row_of : Stmt := top 17
theorem sc_is_row_of : FnScope ["office", "thing", "work"] ["office", "thing"] (defScope s_is_row_of) := ⟨rfl, rfl, rfl, by decide +kernel, rfl, by decide +kernel, by decide +kernel⟩
theorem ok_is_row_of {f : Addr} {fd : FuncData} (F : Fun K "is_row_of" "is_row_of" s_is_row_of f fd) (Tx : Txt mg) (G_is_work : Gf P w K mg base "is_work" ["office", "thing"] 3 (sp_is_work K COffice)) : FnOk P w K mg base CX0 4 f fd ["office", "thing"] (sp_is_row_of K COffice) := by
  refine F.ok sc_is_row_of (fun vs H Q E h => ?_) (fun cdv A outer s H vs Q E hr h => ?_)
  · obtain ⟨o, v, d, ws, row, rfl, ho, ⟨a, rfl, ha⟩, h10, hr2, k⟩ := h
    rfl
  · obtain ⟨o, v, d, ws, row, rfl, ho, ⟨a, rfl, ha⟩, h10, hr2, k⟩ := h
    refine ⟨_, (pss_one (ps_ret (pe_and (pe_callB (kcall_isi (K := K)) (by rfl) Tx.b_isinstance (by decide +kernel) (pa_cons (pv 1) (pa_cons (pe_ty "tuple" (by rfl) Tx.b_tuple (by decide +kernel)) pa_nil))) (pe_one (pe_callB (kcr_all (K := K) rfl) (by rfl) Tx.b_all (by decide +kernel) (pa_cons (pe_lc (own := [("work", 2)]) (g := gName 2) (tt := tYes) rfl sc_is_row_of.nd (kpi_tup (K := K) (pv 1)) (blkOk_by (own := [("work", 2)]) (N := ["office", "thing", "work"]) (sc := (defScope s_is_row_of)) (by decide +kernel)) (fun _ _ _ _ _ => (pg_name (i := 2) sc_is_row_of.nd rfl (Or.inl rfl))) (fun _ _ _ _ _ => pts_nil) (fun _ _ _ _ _ => (pe_g G_is_work (hr.mono (by decide)) (by rfl) (pa_cons (pv 0) (pa_cons (pv 2) pa_nil))))) pa_nil)))))), ?_⟩
    refine ⟨_, rfl, _, _, _, _, true, rfl, .ty _, .base (.tup ha), kit_ty (by decide +kernel), true, rfl, iteT ?_⟩
    refine t_all (walk_tup (K := K) (a := a) (xs := vz row)) (ch := []) (fun R q => ⟨_, rfl, a, rfl, ⟨_, SqT.of ha⟩, q⟩) no_ch (by rw [vz_len]; omega) (fun H1 k1 => SqT.of (k1.tup ha)) yk_at ?_ ?_
    · rintro i x H1 H2 Q' hi k1 ⟨rfl, hx1⟩ q
      obtain ⟨n, hn, rfl⟩ := vz_of hx1
      exact ⟨rfl, _, rfl, _, rfl, _, _, _, _, rfl, ho.kp k1 (fun z => nomatch z), hr2 n (List.mem_of_getElem? hn), fun H3 k3 => q H3 k3⟩
    · intro H1 k1
      exact k H1 k1

abbrev s_check_row : Stmt := top 18
theorem sc_check_row : FnScope ["office", "thing"] ["office", "thing"] (defScope s_check_row) := ⟨rfl, rfl, rfl, by decide +kernel, rfl, by decide +kernel, by decide +kernel⟩
theorem ok_check_row {f : Addr} {fd : FuncData} (F : Fun K "check_row" "check_row" s_check_row f fd) (Tx : Txt mg) (G_is_row_of : Gf P w K mg base "is_row_of" ["office", "thing"] 4 (sp_is_row_of K COffice)) : FnOk P w K mg base CX0 5 f fd ["office", "thing"] (sp_check_row K COffice) := by
  refine F.ok sc_check_row (fun vs H Q E h => ?_) (fun cdv A outer s H vs Q E hr h => ?_)
  · obtain ⟨o, v, d, ws, row, rfl, ho, hv, h10, hr2, k⟩ := h
    rfl
  · obtain ⟨o, v, d, ws, row, rfl, ho, hv, h10, hr2, k⟩ := h
    refine ⟨_, (pss_one (ps_if (pt_not (pt_val (pe_g G_is_row_of (hr.mono (by decide)) (by rfl) (pa_cons (pv 0) (pa_cons (pv 1) pa_nil))))) (pss_one ps_never) pss_nil)), ?_⟩
    refine ⟨_, rfl, _, rfl, _, _, _, _, _, rfl, ho, hv, h10, hr2, fun H1 k1 => ⟨true, rfl, iteF ?_⟩⟩
    exact k H1 k1

abbrev s_are_told : Stmt := top 22
theorem sc_are_told : FnScope ["thing", "number"] ["thing"] (defScope s_are_told) := ⟨rfl, rfl, rfl, by decide +kernel, rfl, by decide +kernel, by decide +kernel⟩
theorem ok_are_told {f : Addr} {fd : FuncData} (F : Fun K "are_told" "are_told" s_are_told f fd) (Tx : Txt mg) (G_is_within : Gf P w K mg base "is_within" ["thing", "least", "most"] 2 sp_is_within) : FnOk P w K mg base CX0 3 f fd ["thing"] sp_are_told := by
  refine F.ok sc_are_told (fun vs H Q E h => ?_) (fun cdv A outer s H vs Q E hr h => ?_)
  · obtain ⟨v, tel, rfl, ⟨a, rfl, ha⟩, h1, h12, h9, k⟩ := h
    rfl
  · obtain ⟨v, tel, rfl, ⟨a, rfl, ha⟩, h1, h12, h9, k⟩ := h
    refine ⟨_, (pss_cons (ps_if (PW.pt (pw_or (pt_not (pt_val (pe_callB (kcall_isi (K := K)) (by rfl) Tx.b_isinstance (by decide +kernel) (pa_cons (pv 0) (pa_cons (pe_ty "tuple" (by rfl) Tx.b_tuple (by decide +kernel)) pa_nil))))) (pw_or1 (pt_not (pt_chain op_le op_le pe_int (pe_callB (kcall_len (K := K)) (by rfl) Tx.b_len (by decide +kernel) (pa_cons (pv 0) pa_nil)) (pe_const (by rfl) Tx.c_MOST_STANDINGS)))))) (pss_one (ps_ret pe_bl)) pss_nil)
        (pss_one (ps_ret (pe_callB (kcr_all (K := K) rfl) (by rfl) Tx.b_all (by decide +kernel) (pa_cons (pe_lc (own := [("number", 1)]) (g := gName 1) (tt := tYes) rfl sc_are_told.nd (kpi_tup (K := K) (pv 0)) (blkOk_by (own := [("number", 1)]) (N := ["thing", "number"]) (sc := (defScope s_are_told)) (by decide +kernel)) (fun _ _ _ _ _ => (pg_name (i := 1) sc_are_told.nd rfl (Or.inl rfl))) (fun _ _ _ _ _ => pts_nil) (fun _ _ _ _ _ => (pe_g G_is_within (hr.mono (by decide)) (by rfl) (pa_cons (pv 1) (pa_cons pe_int (pa_cons (pe_const (by rfl) Tx.c_MOST_TOLD_books) pa_nil)))))) pa_nil))))), ?_⟩
    refine ⟨_, rfl, _, _, _, _, true, rfl, .ty _, .base (.tup ha), kit_ty (by decide +kernel), true, rfl, iteF ?_⟩
    refine ⟨_, rfl, a, _, rfl, .inr (SqT.of ha), 1, _, rfl, rfl, true, by rw [vz_len]; simp; omega, iteT ⟨_, _, rfl, rfl, true, by rw [vz_len]; simp; omega, iteF ?_⟩⟩
    dsimp only [tNext, tRet]
    refine t_all (walk_tup (K := K) (a := a) (xs := vz tel)) (ch := []) (fun R q => ⟨_, rfl, a, rfl, ⟨_, SqT.of ha⟩, q⟩) no_ch (by rw [vz_len]; omega) (fun H1 k1 => SqT.of (k1.tup ha)) yk_at ?_ ?_
    · rintro i x H1 H2 Q' hi k1 ⟨rfl, hx1⟩ q
      obtain ⟨n, hn, rfl⟩ := vz_of hx1
      have := h9 n (List.mem_of_getElem? hn)
      refine ⟨rfl, _, rfl, _, _, _, rfl, fun H3 k3 => qv (q H3 k3) (congrArg V.bl (decide_eq_true ?_))⟩
      omega
    · intro H1 k1
      exact k H1 k1

abbrev s_are_standings : Stmt := top 23
theorem sc_are_standings : FnScope ["thing", "many", "below", "standing"] ["thing", "many", "below"] (defScope s_are_standings) := ⟨rfl, rfl, rfl, by decide +kernel, rfl, by decide +kernel, by decide +kernel⟩
theorem ok_are_standings {f : Addr} {fd : FuncData} (F : Fun K "are_standings" "are_standings" s_are_standings f fd) (Tx : Txt mg) (G_is_within : Gf P w K mg base "is_within" ["thing", "least", "most"] 2 sp_is_within) : FnOk P w K mg base CX0 3 f fd ["thing", "many", "below"] sp_are_standings := by
  refine F.ok sc_are_standings (fun vs H Q E h => ?_) (fun cdv A outer s H vs Q E hr h => ?_)
  · obtain ⟨v, gs, nw, b, rfl, ⟨a, rfl, ha⟩, hl, h10, hb, k⟩ := h
    rfl
  · obtain ⟨v, gs, nw, b, rfl, ⟨a, rfl, ha⟩, hl, h10, hb, k⟩ := h
    refine ⟨_, (pss_cons (ps_if (PW.pt (pw_or (pt_not (pt_val (pe_callB (kcall_isi (K := K)) (by rfl) Tx.b_isinstance (by decide +kernel) (pa_cons (pv 0) (pa_cons (pe_ty "tuple" (by rfl) Tx.b_tuple (by decide +kernel)) pa_nil))))) (pw_or1 (pt_cmpR op_ne (pe_callB (kcall_len (K := K)) (by rfl) Tx.b_len (by decide +kernel) (pa_cons (pv 0) pa_nil)) (pv 1) (nomark _))))) (pss_one (ps_ret pe_bl)) pss_nil)
        (pss_one (ps_ret (pe_callB (kcr_all (K := K) rfl) (by rfl) Tx.b_all (by decide +kernel) (pa_cons (pe_lc (own := [("standing", 3)]) (g := gName 3) (tt := tYes) rfl sc_are_standings.nd (kpi_tup (K := K) (pv 0)) (blkOk_by (own := [("standing", 3)]) (N := ["thing", "many", "below", "standing"]) (sc := (defScope s_are_standings)) (by decide +kernel)) (fun _ _ _ _ _ => (pg_name (i := 3) sc_are_standings.nd rfl (Or.inl rfl))) (fun _ _ _ _ _ => pts_nil) (fun _ _ _ _ _ => (pe_g G_is_within (hr.mono (by decide)) (by rfl) (pa_cons (pv 3) (pa_cons pe_int (pa_cons (pe_op op_sub (pv 2) pe_int) pa_nil)))))) pa_nil))))), ?_⟩
    refine ⟨_, rfl, _, _, _, _, true, rfl, .ty _, .base (.tup ha), kit_ty (by decide +kernel), true, rfl, iteF ?_⟩
    refine ⟨_, rfl, a, _, rfl, .inr (SqT.of ha), _, rfl, rfl, false, by rw [vz_len, hl]; simp, iteF ?_⟩
    dsimp only [tNext, tRet]
    refine t_all (walk_tup (K := K) (a := a) (xs := vz gs)) (ch := []) (fun R q => ⟨_, rfl, a, rfl, ⟨_, SqT.of ha⟩, q⟩) no_ch (by rw [vz_len]; omega) (fun H1 k1 => SqT.of (k1.tup ha)) yk_at ?_ ?_
    · rintro i x H1 H2 Q' hi k1 ⟨rfl, hx1⟩ q
      obtain ⟨n, hn, rfl⟩ := vz_of hx1
      have := hb n (List.mem_of_getElem? hn)
      refine ⟨rfl, _, rfl, _, rfl, _, _, rfl, rfl, _, _, _, rfl, fun H3 k3 => qv (q H3 k3) (congrArg V.bl (decide_eq_true ?_))⟩
      omega
    · intro H1 k1
      exact k H1 k1

abbrev s_Book_keep : Stmt := inClass (top 24) 1
theorem sc_Book_keep : FnScope ["self", "office", "telling", "steps"] ["self", "office", "telling", "steps"] (defScope s_Book_keep) := ⟨rfl, rfl, rfl, by decide +kernel, rfl, by decide +kernel, by decide +kernel⟩
theorem ok_Book_keep {f : Addr} {fd : FuncData} (F : Fun K "keep" "Book.keep" s_Book_keep f fd) (Tx : Txt mg)  : FnOk P w K mg base CX0 1 f fd ["self", "office", "telling", "steps"] (sp_Book_keep K C0) := by
  refine F.ok sc_Book_keep (fun vs H Q E h => ?_) (fun cdv A outer s H vs Q E hr h => ?_)
  · obtain ⟨p, dx, o, v1, v2, rfl, fb, hp, k⟩ := h
    rfl
  · obtain ⟨p, dx, o, v1, v2, rfl, fb, hp, k⟩ := h
    refine ⟨_, (pss_cons (ps_fld (pv 0) (pv 1) rfl)
        (pss_cons (ps_fld (pv 0) (pv 2) rfl)
        (pss_one (ps_fld (pv 0) (pv 3) rfl)))), ?_⟩
    refine ⟨_, rfl, _, rfl, p, _, dx, _, rfl, hp, fb.cl, fb.office, by decide, ?_⟩
    have e1 := len_putF "office" o []
    have e2 := len_putF "telling" v1 (putF "office" o [])
    simp at e1
    refine ⟨_, rfl, _, rfl, p, _, dx, _, rfl, upd_same, fb.cl, fb.telling, by omega, ?_⟩
    refine ⟨_, rfl, _, rfl, p, _, dx, _, rfl, upd_same, fb.cl, fb.steps, by omega, ?_⟩
    refine k _ ?_ upd_same
    refine ((Kp.refl.put List.mem_cons_self fun xs e => by rw [hp] at e; cases e).trans (Kp.refl.put List.mem_cons_self fun xs e => by rw [upd_same] at e; cases e)).trans (Kp.refl.put List.mem_cons_self fun xs e => by rw [upd_same] at e; cases e)

abbrev s_Book_init : Stmt := inClass (top 24) 0
theorem sc_Book_init : FnScope ["self", "office", "telling", "steps", "goals"] ["self", "office", "telling", "steps"] (defScope s_Book_init) := ⟨rfl, rfl, rfl, by decide +kernel, rfl, by decide +kernel, by decide +kernel⟩
theorem ok_Book_init {f : Addr} {fd : FuncData} (F : Fun K "__init__" "Book.__init__" s_Book_init f fd) (Tx : Txt mg) (T_Book : ClsF K mg "Book" CBook) (G_keep : Gm P w K mg base CBook "keep" ["self", "office", "telling", "steps"] 1 (sp_Book_keep K CBook)) (G_are_standings : Gf P w K mg base "are_standings" ["thing", "many", "below"] 3 sp_are_standings) (G_are_told : Gf P w K mg base "are_told" ["thing"] 3 sp_are_told) : FnOk P w K mg base CX0 4 f fd ["self", "office", "telling", "steps"] (sp_Book_init K COffice CBook) := by
  refine F.ok sc_Book_init (fun vs H Q E h => ?_) (fun cdv A outer s H vs Q E hr h => ?_)
  · obtain ⟨p, dx, o, v1, v2, d, ws, tel, steps, rfl, fb, hp, ho, w10, ht, hs, ok, t12, k⟩ := h
    rfl
  · obtain ⟨p, dx, o, v1, v2, d, ws, tel, steps, rfl, fb, hp, ho, w10, ht, hs, ok, t12, k⟩ := h
    obtain ⟨fk, fdk, mK, bK, FK⟩ := G_keep.ex
    have hr1 : Room 1 _ := hr.mono (by decide)
    refine ⟨_, (pss_cons (ps_if (pt_not (pt_val (pe_g G_are_told (hr.mono (by decide)) (by rfl) (pa_cons (pv 2) pa_nil)))) (pss_one ps_never) pss_nil)
        (pss_cons (ps_if (PW.pt (pw_or (pt_not (pt_val (pe_callB (kcall_isi (K := K)) (by rfl) Tx.b_isinstance (by decide +kernel) (pa_cons (pv 3) (pa_cons (pe_ty "tuple" (by rfl) Tx.b_tuple (by decide +kernel)) pa_nil))))) (pw_or1 (pt_cmpR op_ne (pe_callB (kcall_len (K := K)) (by rfl) Tx.b_len (by decide +kernel) (pa_cons (pv 3) pa_nil)) (pe_callB (kcall_len (K := K)) (by rfl) Tx.b_len (by decide +kernel) (pa_cons (pv 2) pa_nil)) (nomark _))))) (pss_one ps_never) pss_nil)
        (pss_cons (ps_if (pt_not (pt_val (pe_callB (kcr_all (K := K) rfl) (by rfl) Tx.b_all (by decide +kernel) (pa_cons (pe_lc (own := [("goals", 4)]) (g := gName 4) (tt := tYes) rfl sc_Book_init.nd (kpi_tup (K := K) (pv 3)) (blkOk_by (own := [("goals", 4)]) (N := ["self", "office", "telling", "steps", "goals"]) (sc := (defScope s_Book_init)) (by decide +kernel)) (fun _ _ _ _ _ => (pg_name (i := 4) sc_Book_init.nd rfl (Or.inl rfl))) (fun _ _ _ _ _ => pts_nil) (fun _ _ _ _ _ => (pe_g G_are_standings (hr.mono (by decide)) (by rfl) (pa_cons (pv 4) (pa_cons (pe_callB (kcall_len (K := K)) (by rfl) Tx.b_len (by decide +kernel) (pa_cons (kpe_fld (K := K) (pv 1) rfl) pa_nil)) (pa_cons (pe_callB (kcall_len (K := K)) (by rfl) Tx.b_len (by decide +kernel) (pa_cons (pv 2) pa_nil)) pa_nil)))))) pa_nil)))) (pss_one ps_never) pss_nil)
        (pss_one (ps_expr (pe_meth (pv 0) T_Book.cl mK FK hr1 bK .nil pass0 (pa_cons (pv 1) (pa_cons (pv 2) (pa_cons (pv 3) pa_nil))))))))), ?_⟩
    obtain ⟨fo, dxo, fso, vo, hoo, ho1, ho2, ho3⟩ := ho
    obtain ⟨t, rfl, ht⟩ := ht
    obtain ⟨b, xs, rfl, hb, hl, hx⟩ := hs
    have e1 := ok.len
    refine ⟨_, rfl, _, tel, rfl, ⟨t, rfl, ht⟩, ok.one, t12, ok.nine, fun H1 k1 => ⟨true, rfl, iteF ?_⟩⟩
    dsimp only [tNext, tSeq]
    refine ⟨_, rfl, _, _, _, _, true, rfl, .ty _, .base (.tup (k1.tup hb)), kit_ty (by decide +kernel), true, rfl, iteF ?_⟩
    refine ⟨_, rfl, b, _, rfl, .inr (SqT.of (k1.tup hb)), _, rfl, t, _, rfl, .inr (SqT.of (k1.tup ht)), rfl, false, by rw [vz_len, hl, e1]; simp, iteF ?_⟩
    dsimp only [tNext, tSeq]
    refine t_all (walk_tup (K := K) (a := b) (xs := xs)) (ch := []) (fun R q => ⟨_, rfl, b, rfl, ⟨_, SqT.of (k1.tup hb)⟩, q⟩) no_ch (by omega) (fun H2 k2 => SqT.of ((k1.trans k2).tup hb)) yk_at ?_ ?_
    · rintro i x H3 H2 Q' hi k2 ⟨rfl, hx1⟩ q
      have hi2 : i < steps.length := by omega
      have kk := k1.trans k2
      have t1 := (hx i x _ hx1 (List.getElem?_eq_getElem hi2)).tk kk.tk
      obtain ⟨a, vs, rfl, hva, hvl, _⟩ := ho3
      have e2 := ok.each _ (List.getElem_mem hi2)
      refine ⟨rfl, _, rfl, _, rfl, o, _, dxo, fso, _, rfl, kk.get hoo, fo.cl, fo.works, ho2, a, _, rfl, .inr (SqT.of (kk.tup hva)), _, rfl, t, _, rfl, .inr (SqT.of (kk.tup ht)), x, steps[i], ws.length, tel.length, by rw [hvl, vz_len]; rfl, t1, e2.1, w10, e2.2, fun H3 k3 => q H3 k3⟩
    · intro H2 k2
      refine ⟨true, rfl, iteF ?_⟩
      dsimp only [tNext, tSeq]
      exact ⟨_, rfl, p, dx, _, rfl, (k1.trans k2).get hp, rfl, _, rfl, _, rfl, _, rfl, p, dx, .ref o, _, _, rfl, fb, (k1.trans k2).get hp, fun H3 k3 h3 => k H3 ((k1.trans k2).any.trans k3) h3⟩

abbrev s_RawBook_init : Stmt := inClass (top 25) 0
theorem sc_RawBook_init : FnScope ["self", "office", "telling", "steps"] ["self", "office", "telling", "steps"] (defScope s_RawBook_init) := ⟨rfl, rfl, rfl, by decide +kernel, rfl, by decide +kernel, by decide +kernel⟩
theorem ok_RawBook_init {f : Addr} {fd : FuncData} (F : Fun K "__init__" "RawBook.__init__" s_RawBook_init f fd) (Tx : Txt mg) (T_RawBook : ClsF K mg "RawBook" CRawBook) (G_keep : Gm P w K mg base CRawBook "keep" ["self", "office", "telling", "steps"] 1 (sp_Book_keep K CRawBook)) : FnOk P w K mg base CX0 2 f fd ["self", "office", "telling", "steps"] (sp_Book_keep K CRawBook) := by
  refine F.ok sc_RawBook_init (fun vs H Q E h => ?_) (fun cdv A outer s H vs Q E hr h => ?_)
  · obtain ⟨p, dx, o, v1, v2, rfl, fb, hp, k⟩ := h
    rfl
  · obtain ⟨p, dx, o, v1, v2, rfl, fb, hp, k⟩ := h
    obtain ⟨fk, fdk, mK, bK, FK⟩ := G_keep.ex
    have hr1 : Room 1 _ := hr.mono (by decide)
    refine ⟨_, (pss_one (ps_expr (pe_meth (pv 0) T_RawBook.cl mK FK hr1 bK .nil pass0 (pa_cons (pv 1) (pa_cons (pv 2) (pa_cons (pv 3) pa_nil)))))), ?_⟩
    exact ⟨_, rfl, p, dx, _, rfl, hp, rfl, _, rfl, _, rfl, _, rfl, p, dx, o, v1, v2, rfl, fb, hp, fun H1 k1 h1 => k H1 k1 h1⟩

abbrev s_raw_book : Stmt := top 26
theorem sc_raw_book : FnScope ["office", "telling", "steps", "goals"] ["office", "telling", "steps"] (defScope s_raw_book) := ⟨rfl, rfl, rfl, by decide +kernel, rfl, by decide +kernel, by decide +kernel⟩
theorem ok_raw_book {f : Addr} {fd : FuncData} (F : Fun K "raw_book" "raw_book" s_raw_book f fd) (Tx : Txt mg) (fR : FB K CRawBook) (C_RawBook : Gc P w K mg base "RawBook" CRawBook ["self", "office", "telling", "steps"] 2 (sp_Book_keep K CRawBook)) : FnOk P w K mg base CX0 4 f fd ["office", "telling", "steps"] (sp_raw_book K) := by
  refine F.ok sc_raw_book (fun vs H Q E h => ?_) (fun cdv A outer s H vs Q E hr h => ?_)
  · obtain ⟨o, l1, l2, tel, steps, ls, rfl, h1, h2, hl, h10, hx, k⟩ := h
    rfl
  · obtain ⟨o, l1, l2, tel, steps, ls, rfl, h1, h2, hl, h10, hx, k⟩ := h
    refine ⟨_, (pss_one (ps_ret (pe_c C_RawBook (hr.mono (by decide)) (by rfl) (pa_cons (pv 0) (pa_cons (pe_callTy (kcall_tup (K := K)) (by rfl) Tx.b_tuple (by decide +kernel) (pa_cons (pv 1) pa_nil)) (pa_cons (pe_callTy (kcall_tup (K := K)) (by rfl) Tx.b_tuple (by decide +kernel) (pa_cons (pe_lc (own := [("goals", 3)]) (g := gName 3) (tt := tYes) rfl sc_raw_book.nd (kpi_list (K := K) (pv 2)) (blkOk_by (own := [("goals", 3)]) (N := ["office", "telling", "steps", "goals"]) (sc := (defScope s_raw_book)) (by decide +kernel)) (fun _ _ _ _ _ => (pg_name (i := 3) sc_raw_book.nd rfl (Or.inl rfl))) (fun _ _ _ _ _ => pts_nil) (fun _ _ _ _ _ => (pe_callTy (kcall_tup (K := K)) (by rfl) Tx.b_tuple (by decide +kernel) (pa_cons (pv 3) pa_nil)))) pa_nil)) pa_nil)))))), ?_⟩
    refine ⟨_, rfl, _, rfl, l1, _, rfl, .inl ⟨SqL.of h1, fun p1 n1 => ?_⟩⟩
    have k1 : Kp [] H (upd H p1 (.tup (vz tel))) := Kp.new n1
    have t1 : T1 (upd H p1 (.tup (vz tel))) (.ref p1) tel := ⟨p1, rfl, upd_same⟩
    refine t_tupR (walk_list (K := K) (a := l2) (xs := ls)) (ch := []) (fun R q => ⟨_, rfl, l2, rfl, ⟨_, SqL.of (k1.get h2)⟩, q⟩) (fun i y H' => ∀ gs, steps[i]? = some gs → T1 H' y gs) no_ch (by omega) (fun H1 k2 => SqL.of ((k1.trans k2).get h2)) yk_at (fun i y H1 H2 t h gs e => (h gs e).tk t) ?_ ?_
    · rintro i x H2 H1 Q' hi k2 ⟨rfl, hx1⟩ q
      have hi2 : i < steps.length := by omega
      obtain ⟨c, rfl, hc⟩ := hx i x _ hx1 (List.getElem?_eq_getElem hi2)
      refine ⟨rfl, _, rfl, c, _, rfl, .inl ⟨SqL.of ((k1.trans k2).get hc), fun p2 n2 => q _ _ (Kp.new n2) fun gs e => ⟨p2, rfl, ?_⟩⟩⟩
      rw [List.getElem?_eq_getElem hi2] at e
      injection e with e
      rw [upd_same, e]
    · intro p2 ys H1 k2 hp2 hl2 hR x dx nx ndx hne
      have kx : Kp [] H1 (upd (upd H1 dx (.own x)) x (.ins CRawBook dx [])) := (Kp.new ndx).new' (by rw [upd_ne (Ne.symm hne)]; exact nx)
      refine ⟨x, dx, _, _, _, rfl, fR, upd_same, fun H2 k3 hb => ⟨rfl, k x H2 ?_ ?_⟩⟩
      · refine ⟨fun a o e n => ?_, fun a e => ?_⟩
        · exact k3.at (kx.get ((k1.trans k2).get e)) (by have := (k1.trans k2).ne e nx; simpa using this)
        · exact (k1.trans k2).free a (kx.free a (k3.free a e))
      · have kk : Tk (upd H p1 (.tup (vz tel))) H2 := fun a xs e => k3.tk _ _ (kx.tk _ _ (k2.tk _ _ e))
        have kk2 : Tk H1 H2 := fun a xs e => k3.tk _ _ (kx.tk _ _ e)
        refine ⟨CRawBook, dx, _, _, _, fR, hb, ?_, ?_, t1.tk kk, ?_, p2, ys, rfl, kk2 _ _ hp2, by omega, fun i x y e1 e2 => (hR i x e1 y e2).tk kk2⟩
        · unfold bkF; rw [lookup_putF, if_neg (by decide +kernel), lookup_putF, if_neg (by decide +kernel), lookup_putF, if_pos rfl]
        · unfold bkF; rw [lookup_putF, if_neg (by decide +kernel), lookup_putF, if_pos rfl]
        · unfold bkF; rw [lookup_putF, if_pos rfl]

abbrev s_stood_from : Stmt := top 27
theorem sc_stood_from : FnScope ["book", "standing", "row", "work"] ["book", "standing", "row"] (defScope s_stood_from) := ⟨rfl, rfl, rfl, by decide +kernel, rfl, by decide +kernel, by decide +kernel⟩
theorem ok_stood_from {f : Addr} {fd : FuncData} (F : Fun K "stood_from" "stood_from" s_stood_from f fd) (Tx : Txt mg)  : FnOk P w K mg base CX0 1 f fd ["book", "standing", "row"] (sp_stood_from K) := by
  refine F.ok sc_stood_from (fun vs H Q E h => ?_) (fun cdv A outer s H vs Q E hr h => ?_)
  · obtain ⟨p, o, v, s0, nw, row, tel, steps, rfl, ⟨C, dx, fs, v1, v2, fb, hp, h1, h2, ht1, h4, ⟨b, ss, rfl, hb, hsl, hss⟩⟩, ok, ⟨a, rfl, ha⟩, hs, hr2, k⟩ := h
    rfl
  · obtain ⟨p, o, v, s0, nw, row, tel, steps, rfl, ⟨C, dx, fs, v1, v2, fb, hp, h1, h2, ht1, h4, ⟨b, ss, rfl, hb, hsl, hss⟩⟩, ok, ⟨a, rfl, ha⟩, hs, hr2, k⟩ := h
    refine ⟨_, (pss_cons (ps_for PassesOwn.never rfl (kpi_tup (K := K) (pv 2)) (pg_name (i := 3) sc_stood_from.nd rfl (Or.inl rfl))
        (pss_one (ps_set (i := 1) sc_stood_from.nd rfl (Or.inl rfl) (pe_ix (kix_tup (K := K)) (pe_ix (kix_tup (K := K)) (kpe_fld (K := K) (pv 0) rfl) (pv 1) (fun _ _ => rfl)) (pv 3) (fun _ _ => rfl)))))
        (pss_one (ps_ret (pv 1)))), ?_⟩
    refine ⟨_, rfl, a, rfl, ⟨_, SqT.of ha⟩, ?_⟩
    refine for_it (walk_tup (K := K) (a := a) (xs := vz row)) (fun i σ H' => Kp [] H H' ∧ ∃ x, σ = [some (.ref p), some (.int (stoodM steps s0 (row.take i) : Nat)), some (.ref a), x]) ⟨Kp.refl, none, rfl⟩ (fun i σ H' hi q => SqT.of (q.1.tup ha)) ?_ ?_
    · rintro i x σ H2 H1 hi ⟨k1, z, rfl⟩ ⟨rfl, hx⟩
      obtain ⟨n, hn, rfl⟩ := vz_of hx
      have hlt : stoodM steps s0 (row.take i) < tel.length := stood_lt ok _ hs fun j hj => hr2 j (List.mem_of_mem_take hj)
      obtain ⟨gs, e1, e2, e3⟩ := step1_at ok hlt (hr2 n (List.mem_of_getElem? hn))
      have b1 := (List.getElem?_eq_some_iff.mp e1).1
      obtain ⟨c, hc, hcc⟩ := hss _ _ _ (List.getElem?_eq_getElem (show stoodM steps s0 (row.take i) < ss.length by omega)) e1
      refine ⟨_, rfl, p, C, dx, fs, _, rfl, k1.get hp, fb.cl, fb.steps, h4, _, rfl, b, _, _, _, rfl, rfl, SqT.of (k1.tup hb), at_of rfl (List.getElem?_eq_getElem (show stoodM steps s0 (row.take i) < ss.length by omega)), ?_⟩
      rw [hc]
      refine ⟨_, rfl, c, _, _, _, rfl, rfl, SqT.of (k1.tup hcc), at_of rfl (vz_some e2), ?_⟩
      refine ⟨k1, some (.int n), ?_⟩
      rw [List.take_add_one, hn, Option.toList_some, stood_snoc]
      rfl
    · rintro σ H1 ⟨k1, z, rfl⟩
      rw [vz_len, List.take_length]
      exact ⟨_, rfl, k H1 k1⟩

abbrev s_stood : Stmt := top 28
theorem sc_stood : FnScope ["book", "row"] ["book", "row"] (defScope s_stood) := ⟨rfl, rfl, rfl, by decide +kernel, rfl, by decide +kernel, by decide +kernel⟩
theorem ok_stood {f : Addr} {fd : FuncData} (F : Fun K "stood" "stood" s_stood f fd) (Tx : Txt mg) (G_check_row : Gf P w K mg base "check_row" ["office", "thing"] 5 (sp_check_row K COffice)) (G_stood_from : Gf P w K mg base "stood_from" ["book", "standing", "row"] 1 (sp_stood_from K)) : FnOk P w K mg base CX0 6 f fd ["book", "row"] (sp_stood K COffice) := by
  refine F.ok sc_stood (fun vs H Q E h => ?_) (fun cdv A outer s H vs Q E hr h => ?_)
  · obtain ⟨p, o, v, d, ws, row, tel, steps, rfl, hb, ho, ok, hv, hl, hr2, k⟩ := h
    rfl
  · obtain ⟨p, o, v, d, ws, row, tel, steps, rfl, hb, ho, ok, hv, hl, hr2, k⟩ := h
    refine ⟨_, (pss_cons (ps_expr (pe_g G_check_row (hr.mono (by decide)) (by rfl) (pa_cons (kpe_fld (K := K) (pv 0) rfl) (pa_cons (pv 1) pa_nil))))
        (pss_one (ps_ret (pe_g G_stood_from (hr.mono (by decide)) (by rfl) (pa_cons (pv 0) (pa_cons pe_int (pa_cons (pv 1) pa_nil))))))), ?_⟩
    have hb' := hb
    obtain ⟨C, dx, fs, v1, v2, fb, hp, h1, h2, ht1, h4, h5⟩ := hb
    refine ⟨_, rfl, p, C, dx, fs, _, rfl, hp, fb.cl, fb.office, h1, _, rfl, _, _, _, _, _, rfl, ho, hv, hl, hr2, fun H1 k1 => ?_⟩
    refine ⟨_, rfl, _, rfl, p, o, v, 0, ws.length, row, tel, steps, rfl, hb'.kp k1 (fun z => nomatch z), ok, hv.tk k1.tk, ok.one, hr2, fun H2 k2 => k H2 (k1.trans k2)⟩

abbrev s_told : Stmt := top 29
theorem sc_told : FnScope ["book", "row"] ["book", "row"] (defScope s_told) := ⟨rfl, rfl, rfl, by decide +kernel, rfl, by decide +kernel, by decide +kernel⟩
theorem ok_told {f : Addr} {fd : FuncData} (F : Fun K "told" "told" s_told f fd) (Tx : Txt mg) (G_stood : Gf P w K mg base "stood" ["book", "row"] 6 (sp_stood K COffice)) : FnOk P w K mg base CX0 7 f fd ["book", "row"] (sp_told K COffice) := by
  refine F.ok sc_told (fun vs H Q E h => ?_) (fun cdv A outer s H vs Q E hr h => ?_)
  · obtain ⟨p, o, v, d, ws, row, tel, steps, rfl, hb, ho, ok, hv, hl, hr2, k⟩ := h
    rfl
  · obtain ⟨p, o, v, d, ws, row, tel, steps, rfl, hb, ho, ok, hv, hl, hr2, k⟩ := h
    refine ⟨_, (pss_one (ps_ret (pe_ix (kix_tup (K := K)) (kpe_fld (K := K) (pv 0) rfl) (pe_g G_stood (hr.mono (by decide)) (by rfl) (pa_cons (pv 0) (pa_cons (pv 1) pa_nil))) (fun _ _ => rfl)))), ?_⟩
    have hb' := hb
    obtain ⟨C, dx, fs, v1, v2, fb, hp, h1, h2, ⟨b, rfl, ht1⟩, h4, h5⟩ := hb
    refine ⟨_, rfl, p, C, dx, fs, _, rfl, hp, fb.cl, fb.telling, h2, _, rfl, _, rfl, p, o, v, d, ws, row, tel, steps, rfl, hb', ho, ok, hv, hl, hr2, fun H1 k1 => ?_⟩
    have hlt := stood_lt ok row ok.one hr2
    exact ⟨b, _, _, _, rfl, rfl, SqT.of (k1.tup ht1), at_of rfl (vz_some (get_of hlt)), k H1 k1⟩

abbrev s_check_match : Stmt := top 31
theorem sc_check_match : FnScope ["one", "other"] ["one", "other"] (defScope s_check_match) := ⟨rfl, rfl, rfl, by decide +kernel, rfl, by decide +kernel, by decide +kernel⟩
theorem ok_check_match {f : Addr} {fd : FuncData} (F : Fun K "check_match" "check_match" s_check_match f fd) (Tx : Txt mg) (F_Office_eq : FnOk P w K mg base CX0 1 fe fde ["self", "other"] (sp_Office_eq K COffice)) (n_Office : NeCls K COffice fe) (b_Office_eq : Binds K fde ["self", "other"] []) : FnOk P w K mg base CX0 3 f fd ["one", "other"] (sp_check_match K COffice CMachine) := by
  refine F.ok sc_check_match (fun vs H Q E h => ?_) (fun cdv A outer s H vs Q E hr h => ?_)
  · obtain ⟨p, m, o, d, ws, tel, steps, M, rfl, hb, hm, ho, k⟩ := h
    rfl
  · obtain ⟨p, m, o, d, ws, tel, steps, M, rfl, hb, hm, ho, k⟩ := h
    have hr2 : Room 2 _ := hr.mono (by decide)
    refine ⟨_, (pss_one (ps_if (pt_cmpR (op_neO F_Office_eq n_Office b_Office_eq hr2) (kpe_fld (K := K) (pv 0) rfl) (kpe_fld (K := K) (pv 1) rfl) (nomark _)) (pss_one ps_never) pss_nil)), ?_⟩
    have ho' := ho
    obtain ⟨C, dx, fs, v1, v2, fb, hp, h1, h2, h3, h4, h5⟩ := hb
    obtain ⟨fm, dxm, fsm, m1, m2, m3, hmm, g1, _⟩ := hm
    obtain ⟨fo, dxo, fso, vo, hoo, ho1, ho2, ho3⟩ := ho
    refine ⟨_, rfl, p, C, dx, fs, _, rfl, hp, fb.cl, fb.office, h1, _, rfl, m, _, dxm, fsm, _, rfl, hmm, fm.cl, fm.office, g1, ?_⟩
    refine ⟨o, o, dxo, dxo, fso, fso, rfl, rfl, hoo, hoo, o, o, d, ws, rfl, ho', ho', fun H1 k1 => ⟨true, rfl, false, rfl, iteF ?_⟩⟩
    exact k H1 k1

abbrev s_row_that_parts : Stmt := top 32
theorem sc_row_that_parts : FnScope ["one", "other", "known", "layer", "later", "row", "here", "there", "work", "goal", "pair"] ["one", "other"] (defScope s_row_that_parts) := ⟨rfl, rfl, rfl, by decide +kernel, rfl, by decide +kernel, by decide +kernel⟩
def k2 (p : Nat × Nat) : List Nat := [p.1, p.2]
theorem k2_mem {l : List (Nat × Nat)} {p : Nat × Nat} : k2 p ∈ l.map k2 ↔ p ∈ l := by
  rw [List.mem_map]
  constructor
  · rintro ⟨q, hq, e⟩
    have : q = p := by
      unfold k2 at e
      injection e with e1 e2
      injection e2 with e2
      exact Prod.ext e1 e2
    rw [← this]; exact hq
  · intro h; exact ⟨p, h, rfl⟩
theorem k2_mem_eq {l : List (Nat × Nat)} {p : Nat × Nat} : decide (k2 p ∈ l.map k2) = decide (p ∈ l) := decide_eq_decide.mpr k2_mem
def ItP (H : Hp) (x : V) (y : List Nat × (Nat × Nat)) : Prop := ∃ a v, x = .ref a ∧ H a = some (.tup [v, .int (y.2.1 : Nat), .int (y.2.2 : Nat)]) ∧ T1 H v y.1
theorem ItP.tk {H H' : Hp} {x : V} {y : List Nat × (Nat × Nat)} (t : Tk H H') (h : ItP H x y) : ItP H' x y := let ⟨a, v, e, h1, h2⟩ := h; ⟨a, v, e, t _ _ h1, h2.tk t⟩
theorem vz2 (a b : Nat) : vz [a, b] = [.int (a : Int), .int (b : Int)] := rfl
theorem next_ok {nw : Nat} {tel1 tel2 : List Nat} {steps1 steps2 : List (List Nat)} (ok1 : StepsOk nw tel1 steps1) (ok2 : StepsOk nw tel2 steps2) {p : Nat × Nat} (h : okP tel1 tel2 p) {w : Nat} (hw : w < nw) : okP tel1 tel2 ((sysP tel1 steps1 tel2 steps2 nw).next p w) := ⟨step1_lt ok1 h.1 hw, step1_lt ok2 h.2 hw⟩
theorem ok_row_that_parts {f : Addr} {fd : FuncData} (F : Fun K "row_that_parts" "row_that_parts" s_row_that_parts f fd) (Tx : Txt mg)  : FnOk P w K mg base CX0 1 f fd ["one", "other"] (sp_row_that_parts K) := by
  refine F.ok sc_row_that_parts (fun vs H Q E h => ?_) (fun cdv A outer s H vs Q E hr h => ?_)
  · obtain ⟨p, q, o1, o2, nw, n, tel1, tel2, steps1, steps2, res, rfl, hb1, hb2, w10, ok1, ok2, B0, k⟩ := h
    rfl
  · obtain ⟨p, q, o1, o2, nw, n, tel1, tel2, steps1, steps2, res, rfl, hb1, hb2, w10, ok1, ok2, B0, k⟩ := h
    have hu := hu_of hr
    refine ⟨_, (pss_cons (ps_set (i := 2) sc_row_that_parts.nd rfl (Or.inl rfl) (pe_dispT hu (pe_tup (pa_cons pe_int (pa_cons pe_int pa_nil))) pe_bl))
        (pss_cons (ps_set (i := 3) sc_row_that_parts.nd rfl (Or.inl rfl) (pe_lst (pa_cons (pe_tup (pa_cons (pe_tup pa_nil) (pa_cons pe_int (pa_cons pe_int pa_nil)))) pa_nil)))
        (pss_cons (ps_while PassesOwn.never (pt_cmpR op_gt (pe_callB (kcall_len (K := K)) (by rfl) Tx.b_len (by decide +kernel) (pa_cons (pv 3) pa_nil)) pe_int (nomark _))
        (pss_cons (ps_set (i := 4) sc_row_that_parts.nd rfl (Or.inl rfl) (pe_lst pa_nil))
        (pss_cons (ps_for PassesOwn.never rfl (kpi_list (K := K) (pv 3)) (kpg_tup (K := K) rfl (pgs_cons (pg_name (i := 5) sc_row_that_parts.nd rfl (Or.inl rfl)) (pgs_cons (pg_name (i := 6) sc_row_that_parts.nd rfl (Or.inl rfl)) (pgs_cons (pg_name (i := 7) sc_row_that_parts.nd rfl (Or.inl rfl)) pgs_nil))))
        (pss_cons (ps_if (pt_cmpR op_ne (pe_ix (kix_tup (K := K)) (kpe_fld (K := K) (pv 0) rfl) (pv 6) (fun _ _ => rfl)) (pe_ix (kix_tup (K := K)) (kpe_fld (K := K) (pv 1) rfl) (pv 7) (fun _ _ => rfl)) (nomark _)) (pss_one (ps_ret (pv 5))) pss_nil)
        (pss_one (ps_for PassesOwn.never rfl (kpi_enumT (K := K) (by rfl) Tx.b_enumerate (pa_cons (pe_ix (kix_tup (K := K)) (kpe_fld (K := K) (pv 0) rfl) (pv 6) (fun _ _ => rfl)) pa_nil)) (kpg_tup (K := K) rfl (pgs_cons (pg_name (i := 8) sc_row_that_parts.nd rfl (Or.inl rfl)) (pgs_cons (pg_name (i := 9) sc_row_that_parts.nd rfl (Or.inl rfl)) pgs_nil)))
        (pss_cons (ps_set (i := 10) sc_row_that_parts.nd rfl (Or.inl rfl) (pe_tup (pa_cons (pv 9) (pa_cons (pe_ix (kix_tup (K := K)) (pe_ix (kix_tup (K := K)) (kpe_fld (K := K) (pv 1) rfl) (pv 7) (fun _ _ => rfl)) (pv 8) (fun _ _ => rfl)) pa_nil))))
        (pss_one (ps_if (pt_cmp (pc_dnotin hu (pv 10) (pv 2))) (pss_cons (ps_dput hu (pv 2) (pv 10) pe_bl rfl)
        (pss_one (ps_expr (kpe_bm (K := K) (pe_bm PySem.F.plainAttrs_list PySem.F.slot_list_append PySem.F.type_list_append mt_append (pv 4) (pa_cons (pe_tup (pa_cons (pe_op (kop_catA (K := K)) (pv 5) (pe_tup (pa_cons (pv 8) pa_nil))) (pa_cons (pe_ix (kix_tup (K := K)) (pv 10) pe_int (fun _ _ => rfl)) (pa_cons (pe_ix (kix_tup (K := K)) (pv 10) pe_int (fun _ _ => rfl)) pa_nil)))) pa_nil)))))) pss_nil)))))))
        (pss_one (ps_set (i := 3) sc_row_that_parts.nd rfl (Or.inl rfl) (pv 4))))))
        (pss_one (ps_ret pe_non))))), ?_⟩
    obtain ⟨C1, dx1, fs1, u1, v1, fb1, hp1, g11, g12, ht1, g14, hs1⟩ := hb1
    obtain ⟨C2, dx2, fs2, u2, v2, fb2, hp2, g21, g22, ht2, g24, hs2⟩ := hb2
    obtain ⟨t1, rfl, ht1⟩ := ht1
    obtain ⟨t2, rfl, ht2⟩ := ht2
    obtain ⟨b1, ss1, rfl, hs1, hl1, hx1⟩ := hs1
    obtain ⟨b2, ss2, rfl, hs2, hl2, hx2⟩ := hs2
    refine fun kd nkd => ⟨two_le, fun e0 ne0 => ?_⟩
    have kd0 : (upd H kd (.dT [])) kd = some (.dT []) := upd_same
    have nke : kd ≠ e0 := ne_of2 kd0 ne0
    refine ⟨by rw [upd_ne nke]; exact upd_same, e0, [0, 0], rfl, upd_same, ?_⟩
    have k1 : Kp [] H (upd (upd (upd H kd (.dT [])) e0 (.tup [.int 0, .int 0])) kd (.dT [(ik [0, 0], .bl true)])) := ((Kp.new nkd).new' ne0).mut nkd
    have hk1 : KnD (upd (upd (upd H kd (.dT [])) e0 (.tup [.int 0, .int 0])) kd (.dT [(ik [0, 0], .bl true)])) kd ([(0, 0)].map k2) := ⟨_, upd_same, rfl⟩
    generalize upd (upd (upd H kd (.dT [])) e0 (.tup [.int 0, .int 0])) kd (.dT [(ik [0, 0], .bl true)]) = H1 at k1 hk1
    refine ⟨Nat.zero_le _, fun e1 ne1 => ⟨three_le, fun e2 ne2 => ⟨one_le, fun l3 n3 => ?_⟩⟩⟩
    have kk1 : Kp [] H1 (upd (upd (upd H1 e1 (.tup [])) e2 (.tup [.ref e1, .int 0, .int 0])) l3 (.lst [.ref e2])) := ((Kp.new ne1).new' ne2).new' n3
    have hl3 : (upd (upd (upd H1 e1 (.tup [])) e2 (.tup [.ref e1, .int 0, .int 0])) l3 (.lst [.ref e2])) l3 = some (.lst [.ref e2]) := upd_same
    have he2 : (upd (upd (upd H1 e1 (.tup [])) e2 (.tup [.ref e1, .int 0, .int 0])) l3 (.lst [.ref e2])) e2 = some (.tup [.ref e1, .int 0, .int 0]) := by rw [upd_ne (ne_of2 (H := upd (upd H1 e1 (.tup [])) e2 (.tup [.ref e1, .int 0, .int 0])) upd_same n3)]; exact upd_same
    have he1 : (upd (upd (upd H1 e1 (.tup [])) e2 (.tup [.ref e1, .int 0, .int 0])) l3 (.lst [.ref e2])) e1 = some (.tup []) := ((Kp.new (ch := []) ne2).trans (Kp.new n3)).get upd_same
    have nl3 : H l3 = none := k1.free _ (Kp.free (ch := []) ((Kp.new ne1).new' ne2) _ n3)
    have k2' : Kp [] H (upd (upd (upd H1 e1 (.tup [])) e2 (.tup [.ref e1, .int 0, .int 0])) l3 (.lst [.ref e2])) := k1.trans kk1
    have hk2 := hk1.keep fun kvs e => kk1.get e
    generalize upd (upd (upd H1 e1 (.tup [])) e2 (.tup [.ref e1, .int 0, .int 0])) l3 (.lst [.ref e2]) = H2 at k2' hk2 hl3 he2 he1
    generalize eS : sysP tel1 steps1 tel2 steps2 nw = S at B0
    have Snw : S.nw = nw := by rw [← eS]; rfl
    have Sbad : ∀ y, S.bad y = decide (tel1.getD y.1 0 ≠ tel2.getD y.2 0) := fun y => by rw [← eS]; rfl
    have Snext : ∀ y w, S.next y w = (step1 steps1 y.1 w, step1 steps2 y.2 w) := fun y w => by rw [← eS]; rfl
    have Sok : ∀ {y w}, okP tel1 tel2 y → w < nw → okP tel1 tel2 (S.next y w) := fun h hw => by rw [← eS]; exact next_ok ok1 ok2 h hw
    refine ⟨fun m σ H' => ∃ known layer l3 x4 x5 x6 x7 x8 x9 x10, Bfs S (Few (okP tel1 tel2)) m known layer res ∧ Kp [] H H' ∧ H l3 = none ∧ KnD H' kd (known.map k2) ∧ LR ItP H' l3 layer ∧
      σ = [some (.ref p), some (.ref q), some (.ref kd), some (.ref l3), x4, x5, x6, x7, x8, x9, x10], ⟨n, [(0, 0)], [([], (0, 0))], l3, none, none, none, none, none, none, none, B0, k2', nl3, hk2, LR.one hl3 ⟨e2, .ref e1, rfl, he2, e1, rfl, he1⟩, rfl⟩, ?_⟩
    rintro m σ H3 ⟨known, layer, l3, x4, x5, x6, x7, x8, x9, x10, B, k3, nl3, hk3, ⟨vs, hl3, hvl, hvx⟩, rfl⟩
    refine ⟨_, rfl, l3, vs, rfl, .inl (SqL.of hl3), _, _, rfl, rfl, _, rfl, ?_⟩
    by_cases hn : layer = []
    · subst hn
      have er := B.nil
      subst er
      rw [decide_eq_false (by rw [hvl]; simp)]
      exact iteF (k .non H3 k3 rfl)
    have hpos : 0 < layer.length := List.length_pos_iff.mpr hn
    rw [decide_eq_true (by rw [hvl]; omega)]
    obtain ⟨⟨gk, gl, gi⟩, look1, look2⟩ := B.look hn
    refine iteT ⟨fun σ H' => (∀ y ∈ layer, S.bad y.2 = false) ∧ ∃ l3 x4 x5 x6 x7 x8 x9 x10, Kp [] H H' ∧ H l3 = none ∧ KnD H' kd ((S.layer known layer).1.map k2) ∧ LR ItP H' l3 (S.layer known layer).2 ∧
      σ = [some (.ref p), some (.ref q), some (.ref kd), some (.ref l3), x4, x5, x6, x7, x8, x9, x10], ?_, ?_⟩
    · rintro σ H4 ⟨hall, l3, x4, x5, x6, x7, x8, x9, x10, h1, h2, h3, h4, rfl⟩
      obtain ⟨m', hm', B'⟩ := look2 hall
      exact ⟨m', hm', _, _, l3, x4, x5, x6, x7, x8, x9, x10, B', h1, h2, h3, h4, rfl⟩
    refine ⟨Nat.zero_le _, fun l4 n4 => ?_⟩
    have nl4 : H l4 = none := k3.free _ n4
    have n34 : l3 ≠ l4 := ne_of2 hl3 n4
    have kl4 : Kp [] H3 (upd H3 l4 (.lst [])) := Kp.new n4
    refine ⟨_, rfl, l3, rfl, ⟨_, SqL.of (kl4.get hl3)⟩, ?_⟩
    refine for_it (walk_list (K := K) (a := l3) (xs := vs)) (fun i σ H' => (∀ (j : Nat) y, j < i → layer[j]? = some y → S.bad y.2 = false) ∧ Kp [] H H' ∧ H' l3 = some (.lst vs) ∧ Tk H3 H' ∧
      KnD H' kd ((S.part known layer i).1.map k2) ∧ LR ItP H' l4 (S.part known layer i).2 ∧
      ∃ x5 x6 x7 x8 x9 x10, σ = [some (.ref p), some (.ref q), some (.ref kd), some (.ref l3), some (.ref l4), x5, x6, x7, x8, x9, x10])
      ⟨fun j y h => by omega, k3.trans kl4, kl4.get hl3, kl4.tk, hk3.keep fun kvs e => kl4.get e, LR.nil upd_same, _, _, _, _, _, _, rfl⟩ (fun i σ H' hi q => SqL.of q.2.2.1) ?_ ?_
    · rintro i x σ H5 H4 hi ⟨hbad, k4, hl4, t4, hk4, hlr4, x5, x6, x7, x8, x9, x10, rfl⟩ ⟨rfl, hx⟩
      obtain ⟨⟨row, here, there⟩, ey⟩ : ∃ y, layer[i]? = some y := ⟨_, List.getElem?_eq_getElem (show i < layer.length by omega)⟩
      obtain ⟨a, v, rfl, ha, hv⟩ := hvx i x _ hx ey
      obtain ⟨glen, gh, gt⟩ := gi _ (List.mem_of_getElem? ey)
      dsimp only at glen gh gt ha hv
      have hlen := S.part_len known layer i (by omega)
      rw [Snw] at hlen
      have inw : i * nw ≤ 10000 * 10 := Nat.mul_le_mul (by omega) w10
      refine ⟨a, _, rfl, SqT.of (t4 _ _ ha), rfl, _, _, rfl, _, _, rfl, _, _, rfl, rfl, ?_⟩
      refine ⟨_, rfl, p, C1, dx1, fs1, _, rfl, k4.get hp1, fb1.cl, fb1.telling, g12, _, rfl, t1, _, _, _, rfl, rfl, SqT.of (k4.tup ht1), at_of rfl (vz_some (get_of (d := 0) gh)), _, rfl, q, C2, dx2, fs2, _, rfl, k4.get hp2, fb2.cl, fb2.telling, g22, _, rfl, t2, _, _, _, rfl, rfl, SqT.of (k4.tup ht2), at_of rfl (vz_some (get_of (d := 0) gt)), rfl, _, rfl, ?_⟩
      by_cases hb : tel1.getD here 0 = tel2.getD there 0
      · have hbf : S.bad (here, there) = false := by rw [Sbad]; exact decide_eq_false fun h => h hb
        rw [show (!decide (V.int (tel1.getD here 0 : Nat) = V.int (tel2.getD there 0 : Nat))) = false from by rw [hb]; simp]
        refine iteF ?_
        dsimp only [tNext]
        have hs1' : here < steps1.length := by rw [ok1.len]; exact gh
        obtain ⟨c1, ec1, hc1⟩ := hx1 here _ _ (List.getElem?_eq_getElem (show here < ss1.length by omega)) (List.getElem?_eq_getElem hs1')
        have lg1 := (ok1.each _ (List.getElem_mem hs1')).1
        refine ⟨_, rfl, p, C1, dx1, fs1, _, rfl, k4.get hp1, fb1.cl, fb1.steps, g14, _, rfl, b1, _, _, _, rfl, rfl, SqT.of (k4.tup hs1), at_of rfl (List.getElem?_eq_getElem (show here < ss1.length by omega)), c1, vz steps1[here], by rw [ec1], SqT.of (k4.tup hc1), ?_⟩
        refine for_it (walk_enumT (K := K) (a := c1) (xs := vz steps1[here])) (fun m σ H' => Kp [] H H' ∧ H' l3 = some (.lst vs) ∧ Tk H3 H' ∧
          KnD H' kd ((S.upTo (row, (here, there)) (S.part known layer i) m).1.map k2) ∧ LR ItP H' l4 (S.upTo (row, (here, there)) (S.part known layer i) m).2 ∧
          ∃ x8 x9 x10, σ = [some (.ref p), some (.ref q), some (.ref kd), some (.ref l3), some (.ref l4), some v, some (.int (here : Int)), some (.int (there : Int)), x8, x9, x10]) ⟨k4, hl4, t4, hk4, hlr4, _, _, _, rfl⟩ (fun m σ H' hm q => SqT.of (q.1.tup hc1)) ?_ ?_
        · rintro m x σ H6 H7 hm ⟨k6, hl6, t6, hk6, hlr6, x8, x9, x10, rfl⟩ ⟨T, y1, y2, rfl, hT, rfl, e1, hy2⟩
          injection e1 with e1
          subst e1
          obtain ⟨goal, hg, rfl⟩ := vz_of hy2
          rw [vz_len, lg1] at hm
          obtain ⟨gs1, eg1, ea1, _⟩ := step1_at ok1 gh hm
          obtain ⟨gs2, eg2, ea2, _⟩ := step1_at ok2 gt hm
          have egoal : goal = step1 steps1 here m := by
            rw [List.getElem?_eq_getElem hs1'] at eg1
            injection eg1 with eg1
            rw [eg1, ea1] at hg
            injection hg with hg
            exact hg.symm
          have gt2 : there < ss2.length := by have := (List.getElem?_eq_some_iff.mp eg2).1; omega
          obtain ⟨c2, ec2, hc2⟩ := hx2 there _ _ (List.getElem?_eq_getElem gt2) eg2
          have kT : Kp [] H6 (upd H6 T (.tup [.int (m : Int), .int (goal : Int)])) := Kp.new hT
          have kk7 := k6.trans kT
          refine ⟨T, _, rfl, SqT.of upd_same, rfl, _, _, rfl, _, _, rfl, rfl, ?_⟩
          refine ⟨_, rfl, _, rfl, q, C2, dx2, fs2, _, rfl, kk7.get hp2, fb2.cl, fb2.steps, g24, _, rfl, b2, _, _, _, rfl, rfl, SqT.of (kk7.tup hs2), at_of rfl (List.getElem?_eq_getElem gt2), _, rfl, c2, _, _, _, by rw [ec2], rfl, SqT.of (kk7.tup hc2), at_of rfl (vz_some ea2), two_le, fun e ne => ?_⟩
          have ke : Kp [] (upd H6 T (.tup [.int (m : Int), .int (goal : Int)])) (upd (upd H6 T (.tup [.int (m : Int), .int (goal : Int)])) e (.tup [.int (goal : Int), .int (step1 steps2 there m : Int)])) := Kp.new ne
          have k8 := kT.trans ke
          have he : (upd (upd H6 T (.tup [.int (m : Int), .int (goal : Int)])) e (.tup [.int (goal : Int), .int (step1 steps2 there m : Int)])) e = some (.tup (vz (k2 (S.next (here, there) m)))) := by rw [upd_same, Snext, ← egoal]; rfl
          have hk8 := hk6.keep fun kvs e => k8.get e
          have hl8 := k8.get hl6
          generalize upd (upd H6 T (.tup [.int (m : Int), .int (goal : Int)])) e (.tup [.int (goal : Int), .int (step1 steps2 there m : Int)]) = H8 at k8 he hk8 hl8
          have ul := S.upTo_len (row, (here, there)) (S.part known layer i) m
          obtain ⟨o, dg, ho⟩ := hk8.get he
          refine ⟨_, rfl, _, rfl, kd, o, rfl, dg, _, rfl, ?_⟩
          rw [ho, k2_mem_eq]
          rw [S.upTo_succ]
          unfold Sys.add
          by_cases mem : S.next (here, there) m ∈ (S.upTo (row, (here, there)) (S.part known layer i) m).1
          · rw [decide_eq_true mem, if_pos mem]
            exact iteF ⟨k6.trans k8, hl8, t6.trans k8.tk, hk8, hlr6.tk @ItP.tk k8.tk fun vs h => k8.get h, _, _, _, rfl⟩
          · rw [decide_eq_false mem, if_neg mem]
            obtain ⟨kv, dp, hk9⟩ := hk8.put he (fun h => mem (k2_mem.mp h)) (by rw [List.length_map]; exact size_lt (by omega)) (.bl true)
            refine iteT ⟨_, rfl, _, rfl, kd, _, rfl, dp, ?_⟩
            have nkdt : ∀ xs, H8 kd ≠ some (.tup xs) := fun xs e => by obtain ⟨kvs, e2, _⟩ := hk8; rw [e2] at e; cases e
            have t9 : Tk H8 (upd H8 kd (.dT kv)) := Tk.put nkdt
            obtain ⟨ys, hy, hyl, hyx⟩ := hlr6
            have hy8 := k8.get hy
            have n4k : l4 ≠ kd := fun e => by obtain ⟨kvs, e2, _⟩ := hk8; rw [e, e2] at hy8; cases hy8
            have n3k : l3 ≠ kd := fun e => by obtain ⟨kvs, e2, _⟩ := hk8; rw [e, e2] at hl8; cases hl8
            have hy9 : (upd H8 kd (.dT kv)) l4 = some (.lst ys) := by rw [upd_ne n4k]; exact hy8
            have hl9 : (upd H8 kd (.dT kv)) l3 = some (.lst vs) := by rw [upd_ne n3k]; exact hl8
            have he9 := t9 _ _ he
            have t39 : Tk H3 (upd H8 kd (.dT kv)) := (t6.trans k8.tk).trans t9
            have t89 : Tk H6 (upd H8 kd (.dT kv)) := k8.tk.trans t9
            have k9 : Kp [] H (upd H8 kd (.dT kv)) := (k6.trans k8).mut nkd
            have hv9 := hv.tk t39
            generalize upd H8 kd (.dT kv) = H9 at hk9 hy9 hl9 he9 t39 t89 k9 hv9
            refine ⟨_, rfl, .inl ⟨rfl, ys, SqL.of hy9⟩, _, rfl, _, rfl, one_le, fun r1 nr1 => ?_⟩
            have kr1 : Kp [] H9 (upd H9 r1 (.tup [.int (m : Int)])) := Kp.new nr1
            refine r_cat (ns := row) (ms := [m]) (hv9.tk kr1.tk) ⟨r1, rfl, upd_same⟩ (Nat.le_of_lt (size_lt (by show row.length + 1 ≤ _; omega))) fun y H10 k10 ty => ?_
            have k910 := kr1.trans k10
            refine ⟨_, rfl, e, _, _, _, rfl, rfl, SqT.of (k910.tup he9), at_of (j := 0) rfl rfl, _, rfl, e, _, _, _, rfl, rfl, SqT.of (k910.tup he9), at_of (j := 1) rfl rfl, three_le, fun r2 nr2 => ?_⟩
            have kr2 : Kp [] H10 (upd H10 r2 (.tup [y, .int ((S.next (here, there) m).1 : Nat), .int ((S.next (here, there) m).2 : Nat)])) := Kp.new nr2
            have k11 := k910.trans kr2
            have hy11 := k11.get hy9
            have hl11 := k11.get hl9
            refine ⟨l4, ys, _, rfl, rfl, hy11, size_lt (by omega), ?_⟩
            refine ⟨(k9.trans k11).mut nl4, by rw [upd_ne n34]; exact hl11, (t39.trans k11.tk).trans (Tk.put fun xs e => by rw [hy11] at e; cases e), ?_, ?_, _, _, _, rfl⟩
            · rw [List.map_append]
              exact (hk9.keep fun kvs e => k11.get e).keep fun kvs e => by rw [upd_ne (fun e2 => by rw [← e2, e] at hy11; cases hy11)]; exact e
            · exact LR.push @ItP.tk hyl hyx (t89.trans k11.tk) hy11 ⟨r2, y, rfl, upd_same, ty.tk kr2.tk⟩
        · rintro σ H6 ⟨k6, hl6, t6, hk6, hlr6, x8, x9, x10, rfl⟩
          rw [vz_len, lg1, ← Snw, S.upTo_all, ← S.part_succ ey] at hk6 hlr6
          refine ⟨fun j y hj e => ?_, k6, hl6, t6, hk6, hlr6, _, _, _, _, _, _, rfl⟩
          by_cases hji : j < i
          · exact hbad j y hji e
          · have : j = i := by omega
            subst this
            rw [ey] at e
            injection e with e
            subst e
            exact hbf
      · have hbt : S.bad (here, there) = true := by rw [Sbad]; exact decide_eq_true hb
        rw [show (!decide (V.int (tel1.getD here 0 : Nat) = V.int (tel2.getD there 0 : Nat))) = true from by rw [decide_eq_false (fun e => hb (by injection e with e; exact_mod_cast e))]; rfl]
        have er := look1 i _ ey hbad hbt
        exact iteT ⟨_, rfl, k v H4 k4 (by rw [er]; exact hv.tk t4)⟩
    · rintro σ H4 ⟨hbad, k4, hl4, t4, hk4, hlr4, x5, x6, x7, x8, x9, x10, rfl⟩
      rw [hvl, S.part_all] at hk4 hlr4
      refine ⟨_, rfl, fun y hy => ?_, l4, _, _, _, _, _, _, _, k4, nl4, hk4, hlr4, rfl⟩
      obtain ⟨j, hj, e⟩ := List.getElem_of_mem hy
      exact hbad j y (by omega) (by rw [List.getElem?_eq_getElem hj, e])

abbrev s_product_of : Stmt := top 37
theorem sc_product_of : FnScope ["many", "found", "number"] ["many"] (defScope s_product_of) := ⟨rfl, rfl, rfl, by decide +kernel, rfl, by decide +kernel, by decide +kernel⟩
theorem ok_product_of {f : Addr} {fd : FuncData} (F : Fun K "product_of" "product_of" s_product_of f fd) (Tx : Txt mg)  : FnOk P w K mg base CX0 1 f fd ["many"] sp_product_of := by
  refine F.ok sc_product_of (fun vs H Q E h => ?_) (fun cdv A outer s H vs Q E hr h => ?_)
  · obtain ⟨v, many, rfl, ⟨a, rfl, ha⟩, h10, h6, k⟩ := h
    rfl
  · obtain ⟨v, many, rfl, ⟨a, rfl, ha⟩, h10, h6, k⟩ := h
    refine ⟨_, (pss_cons (ps_set (i := 1) sc_product_of.nd rfl (Or.inl rfl) pe_int)
        (pss_cons (ps_for PassesOwn.never rfl (kpi_tup (K := K) (pv 0)) (pg_name (i := 2) sc_product_of.nd rfl (Or.inl rfl))
        (pss_one (ps_set (i := 1) sc_product_of.nd rfl (Or.inl rfl) (pe_op op_mul (pv 1) (pv 2)))))
        (pss_one (ps_ret (pv 1))))), ?_⟩
    refine ⟨_, rfl, a, rfl, ⟨_, SqT.of ha⟩, ?_⟩
    refine for_it (walk_tup (K := K) (a := a) (xs := vz many)) (fun i σ H' => Kp [] H H' ∧ ∃ x, σ = [some (.ref a), some (.int (prod (many.take i) : Nat)), x]) ⟨Kp.refl, none, rfl⟩ (fun i σ H' hi p => SqT.of (p.1.tup ha)) ?_ ?_
    · rintro i x σ H1 H2 hi ⟨k1, z, rfl⟩ ⟨rfl, hx⟩
      obtain ⟨n, hn, rfl⟩ := vz_of hx
      have n6 := h6 n (List.mem_of_getElem? hn)
      refine ⟨_, rfl, _, rfl, _, _, rfl, rfl, .inr ⟨by omega, by omega⟩, ?_⟩
      refine ⟨k1, some (.int n), ?_⟩
      rw [List.take_add_one, hn]
      simp [prod, List.foldl_append]
    · rintro σ H1 ⟨k1, z, rfl⟩
      rw [vz_len, List.take_length]
      exact ⟨_, rfl, k H1 k1⟩

abbrev s_are_many : Stmt := top 38
theorem sc_are_many : FnScope ["office", "thing", "number"] ["office", "thing"] (defScope s_are_many) := ⟨rfl, rfl, rfl, by decide +kernel, rfl, by decide +kernel, by decide +kernel⟩
theorem ok_are_many {f : Addr} {fd : FuncData} (F : Fun K "are_many" "are_many" s_are_many f fd) (Tx : Txt mg) (G_is_within : Gf P w K mg base "is_within" ["thing", "least", "most"] 2 sp_is_within) (G_product_of : Gf P w K mg base "product_of" ["many"] 1 sp_product_of) : FnOk P w K mg base CX0 3 f fd ["office", "thing"] (sp_are_many K COffice) := by
  refine F.ok sc_are_many (fun vs H Q E h => ?_) (fun cdv A outer s H vs Q E hr h => ?_)
  · obtain ⟨o, v, d, ws, many, rfl, ⟨fo, dx, fs, vo, ho, h1, h2, h3⟩, ⟨a, rfl, ha⟩, hl, d4, h6, h200, k⟩ := h
    rfl
  · obtain ⟨o, v, d, ws, many, rfl, ⟨fo, dx, fs, vo, ho, h1, h2, h3⟩, ⟨a, rfl, ha⟩, hl, d4, h6, h200, k⟩ := h
    refine ⟨_, (pss_cons (ps_if (PW.pt (pw_or (pt_not (pt_val (pe_callB (kcall_isi (K := K)) (by rfl) Tx.b_isinstance (by decide +kernel) (pa_cons (pv 1) (pa_cons (pe_ty "tuple" (by rfl) Tx.b_tuple (by decide +kernel)) pa_nil))))) (pw_or1 (pt_cmpR op_ne (pe_callB (kcall_len (K := K)) (by rfl) Tx.b_len (by decide +kernel) (pa_cons (pv 1) pa_nil)) (kpe_fld (K := K) (pv 0) rfl) (nomark _))))) (pss_one (ps_ret pe_bl)) pss_nil)
        (pss_one (ps_ret (pe_and (pe_callB (kcr_all (K := K) rfl) (by rfl) Tx.b_all (by decide +kernel) (pa_cons (pe_lc (own := [("number", 2)]) (g := gName 2) (tt := tYes) rfl sc_are_many.nd (kpi_tup (K := K) (pv 1)) (blkOk_by (own := [("number", 2)]) (N := ["office", "thing", "number"]) (sc := (defScope s_are_many)) (by decide +kernel)) (fun _ _ _ _ _ => (pg_name (i := 2) sc_are_many.nd rfl (Or.inl rfl))) (fun _ _ _ _ _ => pts_nil) (fun _ _ _ _ _ => (pe_g G_is_within (hr.mono (by decide)) (by rfl) (pa_cons (pv 2) (pa_cons pe_int (pa_cons (pe_const (by rfl) Tx.c_MOST_NOTES) pa_nil)))))) pa_nil)) (pe_one (pe_cmpR op_le (pe_g G_product_of (hr.mono (by decide)) (by rfl) (pa_cons (pv 1) pa_nil)) (pe_const (by rfl) Tx.c_MOST_TUPLES) (nomark _))))))), ?_⟩
    refine ⟨_, rfl, _, _, _, _, true, rfl, .ty _, .base (.tup ha), kit_ty (by decide +kernel), true, rfl, iteF ?_⟩
    refine ⟨_, rfl, a, _, rfl, .inr (SqT.of ha), _, rfl, o, _, dx, fs, _, rfl, ho, fo.cl, fo.desks, h1, rfl, false, by rw [vz_len, hl]; simp, iteF ?_⟩
    dsimp only [tNext, tSeq, tRet]
    refine t_all (walk_tup (K := K) (a := a) (xs := vz many)) (ch := []) (fun R q => ⟨_, rfl, a, rfl, ⟨_, SqT.of ha⟩, q⟩) no_ch (by rw [vz_len]; omega) (fun H2 k2 => SqT.of (k2.tup ha)) yk_at ?_ ?_
    · rintro i x H3 H2 Q' hi k2 ⟨rfl, hx1⟩ q
      obtain ⟨n, hn, rfl⟩ := vz_of hx1
      have e6 := h6 n (List.mem_of_getElem? hn)
      exact ⟨rfl, _, rfl, _, _, _, rfl, fun H3 k3 => qv (q H3 k3) (congrArg V.bl (decide_eq_true (by omega)))⟩
    · intro H2 k2
      refine ⟨true, rfl, iteT ?_⟩
      exact ⟨_, rfl, _, many, rfl, ⟨a, rfl, k2.tup ha⟩, by omega, fun m hm => (h6 m hm).2, fun H3 k3 => ⟨_, _, rfl, rfl, qv (k H3 (k2.trans k3)) (congrArg V.bl (decide_eq_true (by omega)))⟩⟩

abbrev s_all_notes : Stmt := top 39
theorem sc_all_notes : FnScope ["many", "found", "number", "notes", "fresh"] ["many"] (defScope s_all_notes) := ⟨rfl, rfl, rfl, by decide +kernel, rfl, by decide +kernel, by decide +kernel⟩
theorem ok_all_notes {f : Addr} {fd : FuncData} (F : Fun K "all_notes" "all_notes" s_all_notes f fd) (Tx : Txt mg)  : FnOk P w K mg base CX0 1 f fd ["many"] sp_all_notes := by
  refine F.ok sc_all_notes (fun vs H Q E h => ?_) (fun cdv A outer s H vs Q E hr h => ?_)
  · obtain ⟨v, many, rfl, ⟨a, rfl, ha⟩, h4, h6, k⟩ := h
    rfl
  · obtain ⟨v, many, rfl, ⟨a, rfl, ha⟩, h4, h6, k⟩ := h
    refine ⟨_, (pss_cons (ps_set (i := 1) sc_all_notes.nd rfl (Or.inl rfl) (pe_lst (pa_cons (pe_tup pa_nil) pa_nil)))
        (pss_cons (ps_for PassesOwn.never rfl (kpi_tup (K := K) (pv 0)) (pg_name (i := 2) sc_all_notes.nd rfl (Or.inr rfl))
        (pss_one (ps_setLc2 (i := 1) (own := [("notes", 3), ("fresh", 4)]) (vs1 := [4]) (g := gName 3) (tt := tYes) (g1 := gName 4) (tt1 := tYes) rfl sc_all_notes.nd rfl rfl (sw_true rfl rfl rfl (by decide +kernel)) (kpi_list (K := K) (pv 1)) (blkOk_by (own := [("notes", 3), ("fresh", 4)]) (N := ["many", "found", "number", "notes", "fresh"]) (sc := (defScope s_all_notes)) (by decide +kernel)) (by decide) (fun _ _ _ _ _ => (pg_name (i := 3) sc_all_notes.nd rfl (Or.inl rfl))) (fun _ _ _ _ _ => pts_nil) (fun _ _ _ _ _ => (pi_range1 (by rfl) Tx.b_range (pa_cons (pv 2) pa_nil))) (fun _ _ _ _ _ => (pg_name (i := 4) sc_all_notes.nd rfl (Or.inl rfl))) (fun _ _ _ _ _ => pts_nil) (fun _ _ _ _ _ => (pe_op (kop_catA (K := K)) (pv 3) (pe_tup (pa_cons (pv 4) pa_nil)))))))
        (pss_one (ps_ret (pv 1))))), ?_⟩
    refine ⟨Nat.zero_le _, fun e0 n0 => ⟨one_le, fun l0 m0 => ?_⟩⟩
    have k0 : Kp [] H (upd (upd H e0 (.tup [])) l0 (.lst [.ref e0])) := (Kp.new n0).new' m0
    refine ⟨_, rfl, a, rfl, ⟨_, SqT.of (k0.tup ha)⟩, ?_⟩
    refine for_it (walk_tup (K := K) (a := a) (xs := vz many)) (fun i σ H' => Kp [] H H' ∧ ∃ l x, H l = none ∧ LT H' l ((many.take i).foldl longer [[]]) ∧ σ = [some (.ref a), some (.ref l), x, none, none]) ⟨k0, l0, none, (Kp.new (ch := []) n0).free _ m0, ⟨[.ref e0], upd_same, rfl, fun i x y e1 e2 => ?_⟩, rfl⟩ (fun i σ H' hi q => SqT.of (q.1.tup ha)) ?_ ?_
    · cases i with
      | zero =>
        injection e1 with e1
        injection e2 with e2
        subst e1
        subst e2
        exact ⟨e0, rfl, by rw [upd_ne (ne_of2 (H := upd H e0 (.tup [])) upd_same m0)]; exact upd_same⟩
      | succ i => simp at e1
    · rintro i x σ H2 H1 hi ⟨k1, l, z, nl, ⟨vs, hl, hvl, hvx⟩, rfl⟩ ⟨rfl, hx⟩
      obtain ⟨n, hn, rfl⟩ := vz_of hx
      have n6 := h6 n (List.mem_of_getElem? hn)
      have fl := take_len h4 h6 i
      have il := item_len h4 i
      have ek : many.take (i + 1) = many.take i ++ [n] := by rw [List.take_add_one, hn, Option.toList_some]
      have ef : (many.take (i + 1)).foldl longer [[]] = longer ((many.take i).foldl longer [[]]) n := by rw [ek, List.foldl_append]; rfl
      generalize (many.take i).foldl longer [[]] = fs at hvl hvx fl ef il
      refine r_asg ?_
      refine ⟨_, rfl, l, rfl, ⟨_, SqL.of hl⟩, fun D hD => ?_⟩
      have nD : H D = none := k1.free D hD
      refine ⟨fun j m H' => m = fs.length - j ∧ j ≤ fs.length ∧ Kp [] H1 H' ∧ LT H' D (longer (fs.take j) n), ⟨_, rfl, Nat.zero_le _, Kp.new hD, [], upd_same, by simp [longer], fun i x y e1 e2 => by simp at e1⟩, ?_⟩
      rintro j m H2 ⟨rfl, hj, k2, ys, hy, hyl, hyx⟩
      by_cases hjl : j < fs.length
      · refine .inr ⟨(walk_list (K := K) (a := l) (xs := vs)).goes j H2 (by omega) (SqL.of (k2.get hl)), fun H' => Kp [] H1 H' ∧ LT H' D (longer (fs.take (j + 1)) n), fun H' q => ⟨fs.length - (j + 1), by omega, rfl, hjl, q⟩, fun x H3 hx3 => ?_⟩
        obtain ⟨rfl, hx4⟩ := (walk_list (K := K) (a := l) (xs := vs)).yields j H2 x H3 (by omega) (SqL.of (k2.get hl)) hx3
        have e2 : fs[j]? = some fs[j] := List.getElem?_eq_getElem hjl
        have t1 := hvx j x _ hx4 e2
        refine ⟨rfl, r_yesP ⟨_, rfl, n, rfl, by omega, by omega, ?_⟩⟩
        refine ⟨fun q m H' => m = n - q ∧ q ≤ n ∧ Kp [] H1 H' ∧ LT H' D (longer (fs.take j) n ++ (List.range q).map fun z => fs[j] ++ [z]), ⟨_, rfl, Nat.zero_le _, k2, ys, hy, by simpa using hyl, by simpa using hyx⟩, ?_⟩
        rintro q m H4 ⟨rfl, hq, k4, zs, hz, hzl, hzx⟩
        by_cases hqn : q < n
        · refine .inr ⟨(walk_range (lo := 0) (n := (n : Int).toNat)).goes q H4 (by omega) trivial, fun H' => Kp [] H1 H' ∧ LT H' D (longer (fs.take j) n ++ (List.range (q + 1)).map fun z => fs[j] ++ [z]), fun H' p => ⟨n - (q + 1), by omega, rfl, hqn, p⟩, fun x2 H5 hx5 => ?_⟩
          obtain ⟨rfl, rfl⟩ := (walk_range (lo := 0) (n := (n : Int).toNat)).yields q H4 x2 H5 (by omega) trivial hx5
          refine ⟨rfl, r_yesP ⟨_, rfl, _, rfl, one_le, fun p hp => ?_⟩⟩
          have kp : Kp [] H5 (upd H5 p (.tup [.int (0 + (q : Int))])) := Kp.new hp
          have tl : (longer (fs.take j) n).length = j * n := by rw [len_longer, List.length_take]; congr 1; omega
          have jn : j * n ≤ 1296 * 6 := Nat.mul_le_mul (by omega) n6
          refine r_cat (ns := fs[j]) (ms := [q]) ((t1.tk k4.tk).tk kp.tk) ⟨p, rfl, by rw [upd_same]; show some (HO.tup [V.int (0 + (q : Int))]) = some (HO.tup [V.int (q : Int)]); rw [Int.zero_add]⟩ ?_ fun y H6 k6 t6 => ?_
          · exact Nat.le_of_lt (size_lt (by have := il _ (List.getElem_mem hjl); show fs[j].length + 1 ≤ _; omega))
          have kk := kp.trans k6
          refine ⟨zs, kk.get hz, size_lt ?_, (k4.trans kk).mut hD, ?_⟩
          · rw [hzl, List.length_append, tl, List.length_map, List.length_range]; omega
          · rw [List.range_succ, List.map_append, ← List.append_assoc]
            exact LT.push hz hzl hzx kk t6
        · have e : q = n := by omega
          subst e
          refine .inl ⟨(walk_range (lo := 0) (n := (q : Int).toNat)).stops H4 trivial, k4, ?_⟩
          rw [longer_take e2]
          exact ⟨zs, hz, hzl, hzx⟩
      · have e : j = fs.length := by omega
        subst e
        refine .inl ⟨by have := (walk_list (K := K) (a := l) (xs := vs)).stops H2 (SqL.of (k2.get hl)); rw [hvl] at this; exact this, k1.trans k2, D, _, nD, ?_, rfl⟩
        rw [ef]
        rw [List.take_length] at hyl hyx
        exact ⟨ys, hy, hyl, hyx⟩
    · rintro σ H1 ⟨k1, l, z, nl, hlt, rfl⟩
      rw [vz_len, List.take_length] at hlt
      exact ⟨_, rfl, k l H1 k1 nl hlt⟩

abbrev s_are_notes : Stmt := top 40
theorem sc_are_notes : FnScope ["many", "thing", "item", "number"] ["many", "thing"] (defScope s_are_notes) := ⟨rfl, rfl, rfl, by decide +kernel, rfl, by decide +kernel, by decide +kernel⟩
theorem ok_are_notes {f : Addr} {fd : FuncData} (F : Fun K "are_notes" "are_notes" s_are_notes f fd) (Tx : Txt mg) (G_is_within : Gf P w K mg base "is_within" ["thing", "least", "most"] 2 sp_is_within) : FnOk P w K mg base CX0 3 f fd ["many", "thing"] sp_are_notes := by
  refine F.ok sc_are_notes (fun vs H Q E h => ?_) (fun cdv A outer s H vs Q E hr h => ?_)
  · obtain ⟨v1, v2, many, ns, rfl, ⟨a, rfl, ha⟩, ⟨b, rfl, hb⟩, ft, h4, k⟩ := h
    rfl
  · obtain ⟨v1, v2, many, ns, rfl, ⟨a, rfl, ha⟩, ⟨b, rfl, hb⟩, ft, h4, k⟩ := h
    refine ⟨_, (pss_cons (ps_if (PW.pt (pw_or (pt_not (pt_val (pe_callB (kcall_isi (K := K)) (by rfl) Tx.b_isinstance (by decide +kernel) (pa_cons (pv 1) (pa_cons (pe_ty "tuple" (by rfl) Tx.b_tuple (by decide +kernel)) pa_nil))))) (pw_or1 (pt_cmpR op_ne (pe_callB (kcall_len (K := K)) (by rfl) Tx.b_len (by decide +kernel) (pa_cons (pv 1) pa_nil)) (pe_callB (kcall_len (K := K)) (by rfl) Tx.b_len (by decide +kernel) (pa_cons (pv 0) pa_nil)) (nomark _))))) (pss_one (ps_ret pe_bl)) pss_nil)
        (pss_one (ps_ret (pe_callB (kcr_all (K := K) rfl) (by rfl) Tx.b_all (by decide +kernel) (pa_cons (pe_lc (own := [("item", 2), ("number", 3)]) (g := gTup K 2 (gCons (gName 2) (gCons (gName 3) gNil))) (tt := tYes) rfl sc_are_notes.nd (kpi_zip (K := K) (by rfl) Tx.b_zip (pa_cons (pv 1) (pa_cons (pv 0) pa_nil))) (blkOk_by (own := [("item", 2), ("number", 3)]) (N := ["many", "thing", "item", "number"]) (sc := (defScope s_are_notes)) (by decide +kernel)) (fun _ _ _ _ _ => (kpg_tup (K := K) rfl (pgs_cons (pg_name (i := 2) sc_are_notes.nd rfl (Or.inl rfl)) (pgs_cons (pg_name (i := 3) sc_are_notes.nd rfl (Or.inl rfl)) pgs_nil)))) (fun _ _ _ _ _ => pts_nil) (fun _ _ _ _ _ => (pe_g G_is_within (hr.mono (by decide)) (by rfl) (pa_cons (pv 2) (pa_cons pe_int (pa_cons (pe_op op_sub (pv 3) pe_int) pa_nil)))))) pa_nil))))), ?_⟩
    have hl := ft.1
    refine ⟨_, rfl, _, _, _, _, true, rfl, .ty _, .base (.tup hb), kit_ty (by decide +kernel), true, rfl, iteF ?_⟩
    refine ⟨_, rfl, b, _, rfl, .inr (SqT.of hb), _, rfl, a, _, rfl, .inr (SqT.of ha), rfl, false, by rw [vz_len, vz_len, hl]; simp, iteF ?_⟩
    dsimp only [tNext, tRet]
    refine t_all (walk_zipTT (K := K) (a := b) (b := a) (xs := vz ns) (ys := vz many) (n := ns.length) (by rw [vz_len, vz_len]; omega)) (ch := []) (fun R q => ⟨_, rfl, _, rfl, b, a, _, _, rfl, .inr ⟨SqT.of hb, SqT.of ha, q⟩⟩) no_ch (by omega) (fun H1 k1 => ⟨SqT.of (k1.tup hb), SqT.of (k1.tup ha)⟩) yk_pair ?_ ?_
    · rintro i x H1 H2 Q' hi k1 ⟨T, x1, y1, rfl, hT, rfl, hx1, hy1⟩ q
      obtain ⟨n, hn, rfl⟩ := vz_of hx1
      obtain ⟨m, hm, rfl⟩ := vz_of hy1
      have := ft.2 i n m hn hm
      refine ⟨T, _, rfl, SqT.of upd_same, rfl, _, _, rfl, _, _, rfl, rfl, ?_⟩
      refine ⟨rfl, _, rfl, _, rfl, _, _, rfl, rfl, _, _, _, rfl, fun H3 k3 => qv (q H3 k3) (congrArg V.bl (decide_eq_true ?_))⟩
      omega
    · intro H1 k1
      exact k H1 k1

abbrev s_many_of : Stmt := top 41
theorem sc_many_of : FnScope ["lot", "many", "desk"] ["lot", "many"] (defScope s_many_of) := ⟨rfl, rfl, rfl, by decide +kernel, rfl, by decide +kernel, by decide +kernel⟩
theorem ok_many_of {f : Addr} {fd : FuncData} (F : Fun K "many_of" "many_of" s_many_of f fd) (Tx : Txt mg)  : FnOk P w K mg base CX0 1 f fd ["lot", "many"] sp_many_of := by
  refine F.ok sc_many_of (fun vs H Q E h => ?_) (fun cdv A outer s H vs Q E hr h => ?_)
  · obtain ⟨v1, v2, lot, many, rfl, ⟨a, rfl, ha⟩, ⟨b, rfl, hb⟩, h10, hlt, k⟩ := h
    rfl
  · obtain ⟨v1, v2, lot, many, rfl, ⟨a, rfl, ha⟩, ⟨b, rfl, hb⟩, h10, hlt, k⟩ := h
    refine ⟨_, (pss_one (ps_ret (pe_callTy (kcall_tup (K := K)) (by rfl) Tx.b_tuple (by decide +kernel) (pa_cons (pe_lc (own := [("desk", 2)]) (g := gName 2) (tt := tYes) rfl sc_many_of.nd (kpi_tup (K := K) (pv 0)) (blkOk_by (own := [("desk", 2)]) (N := ["lot", "many", "desk"]) (sc := (defScope s_many_of)) (by decide +kernel)) (fun _ _ _ _ _ => (pg_name (i := 2) sc_many_of.nd rfl (Or.inl rfl))) (fun _ _ _ _ _ => pts_nil) (fun _ _ _ _ _ => (pe_ix (kix_tup (K := K)) (pv 1) (pv 2) (fun _ _ => rfl)))) pa_nil)))), ?_⟩
    refine t_tup1 (walk_tup (K := K) (a := a) (xs := vz lot)) (ch := []) (fun R q => ⟨_, rfl, a, rfl, ⟨_, SqT.of ha⟩, q⟩) (pick many lot) (by rw [vz_len]; exact List.length_map ..) no_ch (by rw [vz_len]; omega) (fun H1 k1 => SqT.of (k1.tup ha)) yk_at ?_ ?_
    · rintro i m x H1 H2 Q' hi hm k1 ⟨rfl, hx1⟩ q
      obtain ⟨n, hn, rfl⟩ := vz_of hx1
      have h2 := hlt n (List.mem_of_getElem? hn)
      have e : many.getD n 0 = m := by
        unfold pick at hm
        rw [List.getElem?_map, hn] at hm
        injection hm
      have e2 : many[n]? = some m := by rw [← e, List.getD_eq_getElem?_getD, List.getElem?_eq_getElem h2]; rfl
      exact ⟨rfl, _, rfl, _, rfl, _, _, _, _, rfl, rfl, SqT.of (k1.tup hb), at_of rfl (vz_some e2), q _ Kp.refl⟩
    · intro v H1 k1 t1
      exact k v H1 k1 t1

abbrev s_is_move : Stmt := top 42
theorem sc_is_move : FnScope ["many", "thing", "key"] ["many", "thing"] (defScope s_is_move) := ⟨rfl, rfl, rfl, by decide +kernel, rfl, by decide +kernel, by decide +kernel⟩
theorem ok_is_move {f : Addr} {fd : FuncData} (F : Fun K "is_move" "is_move" s_is_move f fd) (Tx : Txt mg) (G_all_notes : Gf P w K mg base "all_notes" ["many"] 1 sp_all_notes) (G_are_notes : Gf P w K mg base "are_notes" ["many", "thing"] 3 sp_are_notes) (G_product_of : Gf P w K mg base "product_of" ["many"] 1 sp_product_of) : FnOk P w K mg base CX0 4 f fd ["many", "thing"] sp_is_move := by
  refine F.ok sc_is_move (fun vs H Q E h => ?_) (fun cdv A outer s H vs Q E hr h => ?_)
  · obtain ⟨v, x, many, f, rfl, ⟨a, rfl, ha⟩, hd, h4, h6, hf, k⟩ := h
    rfl
  · obtain ⟨v, x, many, f, rfl, ⟨a, rfl, ha⟩, hd, h4, h6, hf, k⟩ := h
    have hu := hu_of hr
    refine ⟨_, (pss_cons (ps_if (PW.pt (pw_or (pt_not (pt_val (pe_callB (kcall_isi (K := K)) (by rfl) Tx.b_isinstance (by decide +kernel) (pa_cons (pv 1) (pa_cons (pe_ty "dict" (by rfl) Tx.b_dict (by decide +kernel)) pa_nil))))) (pw_or1 (pt_cmpR op_ne (pe_callB call_len_dT (by rfl) Tx.b_len (by decide +kernel) (pa_cons (pv 1) pa_nil)) (pe_g G_product_of (hr.mono (by decide)) (by rfl) (pa_cons (pv 0) pa_nil)) (nomark _))))) (pss_one (ps_ret pe_bl)) pss_nil)
        (pss_one (ps_ret (pe_callB (kcr_all (K := K) rfl) (by rfl) Tx.b_all (by decide +kernel) (pa_cons (pe_lc (own := [("key", 2)]) (g := gName 2) (tt := tYes) rfl sc_is_move.nd (kpi_list (K := K) (pe_g G_all_notes (hr.mono (by decide)) (by rfl) (pa_cons (pv 0) pa_nil))) (blkOk_by (own := [("key", 2)]) (N := ["many", "thing", "key"]) (sc := (defScope s_is_move)) (by decide +kernel)) (fun _ _ _ _ _ => (pg_name (i := 2) sc_is_move.nd rfl (Or.inl rfl))) (fun _ _ _ _ _ => pts_nil) (fun _ _ _ _ _ => (pe_and (pe_cmp (pc_din hu (pv 2) (pv 1))) (pe_one (pe_g G_are_notes (hr.mono (by decide)) (by rfl) (pa_cons (pv 0) (pa_cons (pe_dget hu (pv 1) (pv 2) (fun _ _ => rfl)) pa_nil))))))) pa_nil))))), ?_⟩
    have hd' := hd
    obtain ⟨p, kvs, rfl, hp, hk, hr3⟩ := hd
    have hlen : kvs.length = prod many := by rw [← len_allN, ← List.length_map (as := kvs) (f := (·.1)), hk, List.length_map]
    have p6 := prod_le h4 h6
    refine ⟨_, rfl, _, _, _, _, true, rfl, .ty _, .base (.dT hp), kit_ty (by decide +kernel), true, rfl, iteF ?_⟩
    refine ⟨_, rfl, p, kvs, rfl, hp, _, rfl, _, many, rfl, ⟨a, rfl, ha⟩, by omega, h6, fun H1 k1 => ⟨rfl, false, by rw [hlen]; simp, iteF ?_⟩⟩
    dsimp only [tNext, tSeq, tRet]
    refine t_cbC (ι := Addr × Hp) (fun x => Itl K x.1) (fun x => x.2) (fun x => Kp [] H1 x.2 ∧ LT x.2 x.1 (allN many)) (fun R q => ⟨_, rfl, _, many, rfl, ⟨a, rfl, k1.tup ha⟩, h4, h6, fun l H2 k2 nl hlt => ⟨l, rfl, (let ⟨vs, hv, _⟩ := hlt; ⟨vs, SqL.of hv⟩), q (l, H2) ⟨k2, hlt⟩⟩⟩) ?_
    rintro ⟨l, H2⟩ ⟨k2, vs, hv, hvl, hvx⟩
    dsimp only at k2 hv hvx
    rw [len_allN] at hvl
    refine t_all (walk_list (K := K) (a := l) (xs := vs)) (ch := []) (H1 := H2) (fun R q => q) no_ch (by omega) (fun H3 k3 => SqL.of (k3.get hv)) yk_at ?_ ?_
    · rintro i x H4 H3 Q' hi k3 ⟨rfl, hx1⟩ q
      have e2 : (allN many)[i]? = some ((allN many)[i]'(by rw [len_allN]; omega)) := List.getElem?_eq_getElem _
      obtain ⟨b, rfl, hb⟩ := (hvx i x _ hx1 e2).tk k3.tk
      have mem := List.mem_of_getElem? e2
      have kk := (k1.trans k2).trans k3
      obtain ⟨p2, y, ep, dg, hy⟩ := (hd'.kp kk NoD.nil).get mem hb
      have ft := mem_allN.mp mem
      exact ⟨rfl, _, rfl, _, rfl, p2, _, ep, dg, true, rfl, iteT ⟨_, rfl, _, rfl, _, rfl, p2, y, ep, dg, _, y, many, f _, rfl, ⟨a, rfl, kk.tup ha⟩, hy, hf _ ft, h4, fun H4 k4 => q H4 k4⟩⟩
    · exact fun H3 k3 => k H3 ((k1.trans k2).trans k3)

abbrev s_are_moves : Stmt := top 43
theorem sc_are_moves : FnScope ["office", "many", "thing", "lot", "move"] ["office", "many", "thing"] (defScope s_are_moves) := ⟨rfl, rfl, rfl, by decide +kernel, rfl, by decide +kernel, by decide +kernel⟩
theorem ok_are_moves {f : Addr} {fd : FuncData} (F : Fun K "are_moves" "are_moves" s_are_moves f fd) (Tx : Txt mg) (G_is_move : Gf P w K mg base "is_move" ["many", "thing"] 4 sp_is_move) (G_many_of : Gf P w K mg base "many_of" ["lot", "many"] 1 sp_many_of) : FnOk P w K mg base CX0 5 f fd ["office", "many", "thing"] (sp_are_moves K COffice) := by
  refine F.ok sc_are_moves (fun vs H Q E h => ?_) (fun cdv A outer s H vs Q E hr h => ?_)
  · obtain ⟨o, v1, v2, M, rfl, ⟨fo, dxo, fso, vo, hoo, ho1, ho2, ho3⟩, ⟨a, rfl, ha⟩, hm, ok, k⟩ := h
    rfl
  · obtain ⟨o, v1, v2, M, rfl, ⟨fo, dxo, fso, vo, hoo, ho1, ho2, ho3⟩, ⟨a, rfl, ha⟩, hm, ok, k⟩ := h
    refine ⟨_, (pss_cons (ps_if (PW.pt (pw_or (pt_not (pt_val (pe_callB (kcall_isi (K := K)) (by rfl) Tx.b_isinstance (by decide +kernel) (pa_cons (pv 2) (pa_cons (pe_ty "tuple" (by rfl) Tx.b_tuple (by decide +kernel)) pa_nil))))) (pw_or1 (pt_cmpR op_ne (pe_callB (kcall_len (K := K)) (by rfl) Tx.b_len (by decide +kernel) (pa_cons (pv 2) pa_nil)) (pe_callB (kcall_len (K := K)) (by rfl) Tx.b_len (by decide +kernel) (pa_cons (kpe_fld (K := K) (pv 0) rfl) pa_nil)) (nomark _))))) (pss_one (ps_ret pe_bl)) pss_nil)
        (pss_one (ps_ret (pe_callB (kcr_all (K := K) rfl) (by rfl) Tx.b_all (by decide +kernel) (pa_cons (pe_lc (own := [("lot", 3), ("move", 4)]) (g := gTup K 2 (gCons (gName 3) (gCons (gName 4) gNil))) (tt := tYes) rfl sc_are_moves.nd (kpi_zip (K := K) (by rfl) Tx.b_zip (pa_cons (kpe_fld (K := K) (pv 0) rfl) (pa_cons (pv 2) pa_nil))) (blkOk_by (own := [("lot", 3), ("move", 4)]) (N := ["office", "many", "thing", "lot", "move"]) (sc := (defScope s_are_moves)) (by decide +kernel)) (fun _ _ _ _ _ => (kpg_tup (K := K) rfl (pgs_cons (pg_name (i := 3) sc_are_moves.nd rfl (Or.inl rfl)) (pgs_cons (pg_name (i := 4) sc_are_moves.nd rfl (Or.inl rfl)) pgs_nil)))) (fun _ _ _ _ _ => pts_nil) (fun _ _ _ _ _ => (pe_g G_is_move (hr.mono (by decide)) (by rfl) (pa_cons (pe_g G_many_of (hr.mono (by decide)) (by rfl) (pa_cons (pv 3) (pa_cons (pv 1) pa_nil))) (pa_cons (pv 4) pa_nil))))) pa_nil))))), ?_⟩
    have hm' := hm
    obtain ⟨am, mvs, rfl, ham, hml, hmx⟩ := hm
    obtain ⟨aw, wsv, rfl, haw, hwl, hwx⟩ := ho3
    have w10 := ok.off.w10
    refine ⟨_, rfl, _, _, _, _, true, rfl, .ty _, .base (.tup ham), kit_ty (by decide +kernel), true, rfl, iteF ?_⟩
    refine ⟨_, rfl, am, _, rfl, .inr (SqT.of ham), _, rfl, o, _, dxo, fso, _, rfl, hoo, fo.cl, fo.works, ho2, aw, _, rfl, .inr (SqT.of haw), rfl, false, by rw [hml, hwl]; simp, iteF ?_⟩
    dsimp only [tNext, tSeq, tRet]
    refine t_all (walk_zipTT (K := K) (a := aw) (b := am) (xs := wsv) (ys := mvs) (n := M.ws.length) (by omega)) (ch := []) (fun R q => ⟨_, rfl, o, _, dxo, fso, _, rfl, hoo, fo.cl, fo.works, ho2, _, rfl, aw, am, _, _, rfl, .inr ⟨SqT.of haw, SqT.of ham, q⟩⟩) no_ch (by omega) (fun H3 k3 => ⟨SqT.of (k3.tup haw), SqT.of (k3.tup ham)⟩) yk_pair ?_ ?_
    · rintro i x H1 H2 Q' hi k1 ⟨T, x1, y1, rfl, hT, rfl, hx1, hy1⟩ q
      have w1 := lotOf_at hi
      have kT : Kp [] H1 (upd H1 T (.tup [x1, y1])) := Kp.new hT
      have t1 := ((hwx i _ _ hx1 w1).tk k1.tk).tk kT.tk
      have hmv := ((hmx i _ hy1).kp k1 NoD.nil).kp kT NoD.nil
      have sm := (ok.smW hi).six
      refine ⟨T, _, rfl, SqT.of upd_same, rfl, _, _, rfl, _, _, rfl, rfl, rfl, _, rfl, _, rfl, x1, _, lotOf M.ws i, M.many, rfl, t1, ⟨a, rfl, (k1.trans kT).tup ha⟩, lot_ten ok.off _ (List.mem_of_getElem? w1), ok.lt hi, fun v H3 k3 t3 => ?_⟩
      exact ⟨_, rfl, v, y1, _, _, rfl, t3, hmv.kp k3 NoD.nil, sm.1, sm.2, fun ns => ok.mv i ns hi, fun H4 k4 => q H4 (k3.trans k4)⟩
    · intro H1 k1
      exact k H1 k1

abbrev s_are_tells : Stmt := top 44
theorem sc_are_tells : FnScope ["many", "thing", "key"] ["many", "thing"] (defScope s_are_tells) := ⟨rfl, rfl, rfl, by decide +kernel, rfl, by decide +kernel, by decide +kernel⟩
theorem ok_are_tells {f : Addr} {fd : FuncData} (F : Fun K "are_tells" "are_tells" s_are_tells f fd) (Tx : Txt mg) (G_all_notes : Gf P w K mg base "all_notes" ["many"] 1 sp_all_notes) (G_is_within : Gf P w K mg base "is_within" ["thing", "least", "most"] 2 sp_is_within) (G_product_of : Gf P w K mg base "product_of" ["many"] 1 sp_product_of) : FnOk P w K mg base CX0 3 f fd ["many", "thing"] sp_are_tells := by
  refine F.ok sc_are_tells (fun vs H Q E h => ?_) (fun cdv A outer s H vs Q E hr h => ?_)
  · obtain ⟨v, x, many, f, rfl, ⟨a, rfl, ha⟩, hd, h4, h6, hf, k⟩ := h
    rfl
  · obtain ⟨v, x, many, f, rfl, ⟨a, rfl, ha⟩, hd, h4, h6, hf, k⟩ := h
    have hu := hu_of hr
    refine ⟨_, (pss_cons (ps_if (PW.pt (pw_or (pt_not (pt_val (pe_callB (kcall_isi (K := K)) (by rfl) Tx.b_isinstance (by decide +kernel) (pa_cons (pv 1) (pa_cons (pe_ty "dict" (by rfl) Tx.b_dict (by decide +kernel)) pa_nil))))) (pw_or1 (pt_cmpR op_ne (pe_callB call_len_dT (by rfl) Tx.b_len (by decide +kernel) (pa_cons (pv 1) pa_nil)) (pe_g G_product_of (hr.mono (by decide)) (by rfl) (pa_cons (pv 0) pa_nil)) (nomark _))))) (pss_one (ps_ret pe_bl)) pss_nil)
        (pss_one (ps_ret (pe_callB (kcr_all (K := K) rfl) (by rfl) Tx.b_all (by decide +kernel) (pa_cons (pe_lc (own := [("key", 2)]) (g := gName 2) (tt := tYes) rfl sc_are_tells.nd (kpi_list (K := K) (pe_g G_all_notes (hr.mono (by decide)) (by rfl) (pa_cons (pv 0) pa_nil))) (blkOk_by (own := [("key", 2)]) (N := ["many", "thing", "key"]) (sc := (defScope s_are_tells)) (by decide +kernel)) (fun _ _ _ _ _ => (pg_name (i := 2) sc_are_tells.nd rfl (Or.inl rfl))) (fun _ _ _ _ _ => pts_nil) (fun _ _ _ _ _ => (pe_and (pe_cmp (pc_din hu (pv 2) (pv 1))) (pe_one (pe_g G_is_within (hr.mono (by decide)) (by rfl) (pa_cons (pe_dget hu (pv 1) (pv 2) (fun _ _ => rfl)) (pa_cons pe_int (pa_cons (pe_const (by rfl) Tx.c_MOST_TOLD_machines) pa_nil)))))))) pa_nil))))), ?_⟩
    have hd' := hd
    obtain ⟨p, kvs, rfl, hp, hk, hr3⟩ := hd
    have hlen : kvs.length = prod many := by rw [← len_allN, ← List.length_map (as := kvs) (f := (·.1)), hk, List.length_map]
    have p6 := prod_le h4 h6
    refine ⟨_, rfl, _, _, _, _, true, rfl, .ty _, .base (.dT hp), kit_ty (by decide +kernel), true, rfl, iteF ?_⟩
    refine ⟨_, rfl, p, kvs, rfl, hp, _, rfl, _, many, rfl, ⟨a, rfl, ha⟩, by omega, h6, fun H1 k1 => ⟨rfl, false, by rw [hlen]; simp, iteF ?_⟩⟩
    dsimp only [tNext, tSeq, tRet]
    refine t_cbC (ι := Addr × Hp) (fun x => Itl K x.1) (fun x => x.2) (fun x => Kp [] H1 x.2 ∧ LT x.2 x.1 (allN many)) (fun R q => ⟨_, rfl, _, many, rfl, ⟨a, rfl, k1.tup ha⟩, h4, h6, fun l H2 k2 nl hlt => ⟨l, rfl, (let ⟨vs, hv, _⟩ := hlt; ⟨vs, SqL.of hv⟩), q (l, H2) ⟨k2, hlt⟩⟩⟩) ?_
    rintro ⟨l, H2⟩ ⟨k2, vs, hv, hvl, hvx⟩
    dsimp only at k2 hv hvx
    rw [len_allN] at hvl
    refine t_all (walk_list (K := K) (a := l) (xs := vs)) (ch := []) (H1 := H2) (fun R q => q) no_ch (by omega) (fun H3 k3 => SqL.of (k3.get hv)) yk_at ?_ ?_
    · rintro i x H4 H3 Q' hi k3 ⟨rfl, hx1⟩ q
      have e2 : (allN many)[i]? = some ((allN many)[i]'(by rw [len_allN]; omega)) := List.getElem?_eq_getElem _
      obtain ⟨b, rfl, hb⟩ := (hvx i x _ hx1 e2).tk k3.tk
      have mem := List.mem_of_getElem? e2
      have kk := (k1.trans k2).trans k3
      obtain ⟨p2, y, ep, dg, hy⟩ := (hd'.kp kk NoD.nil).get mem hb
      have ft := mem_allN.mp mem
      subst hy
      have h9 := hf _ ft
      exact ⟨rfl, _, rfl, _, rfl, p2, _, ep, dg, true, rfl, iteT ⟨_, rfl, _, rfl, p2, _, ep, dg, _, _, _, rfl, fun H4 k4 => qv (q H4 k4) (congrArg V.bl (decide_eq_true (by omega)))⟩⟩
    · exact fun H3 k3 => k H3 ((k1.trans k2).trans k3)

abbrev s_Machine_init : Stmt := inClass (top 45) 0
theorem sc_Machine_init : FnScope ["self", "office", "many", "moves", "tells", "move"] ["self", "office", "many", "moves", "tells"] (defScope s_Machine_init) := ⟨rfl, rfl, rfl, by decide +kernel, rfl, by decide +kernel, by decide +kernel⟩
theorem ok_Machine_init {f : Addr} {fd : FuncData} (F : Fun K "__init__" "Machine.__init__" s_Machine_init f fd) (Tx : Txt mg) (G_are_many : Gf P w K mg base "are_many" ["office", "thing"] 3 (sp_are_many K COffice)) (G_are_moves : Gf P w K mg base "are_moves" ["office", "many", "thing"] 5 (sp_are_moves K COffice)) (G_are_tells : Gf P w K mg base "are_tells" ["many", "thing"] 3 sp_are_tells) : FnOk P w K mg base CX0 6 f fd ["self", "office", "many", "moves", "tells"] (sp_Machine_init K COffice CMachine) := by
  refine F.ok sc_Machine_init (fun vs H Q E h => ?_) (fun cdv A outer s H vs Q E hr h => ?_)
  · obtain ⟨p, dx, o, v1, v2, v3, M, rfl, fm, hp, ho, t1, hm, ht, ok, k⟩ := h
    rfl
  · obtain ⟨p, dx, o, v1, v2, v3, M, rfl, fm, hp, ho, t1, hm, ht, ok, k⟩ := h
    have hu2 := room2 hr
    refine ⟨_, (pss_cons (ps_if (pt_not (pt_val (pe_g G_are_many (hr.mono (by decide)) (by rfl) (pa_cons (pv 1) (pa_cons (pv 2) pa_nil))))) (pss_one ps_never) pss_nil)
        (pss_cons (ps_if (pt_not (pt_val (pe_g G_are_moves (hr.mono (by decide)) (by rfl) (pa_cons (pv 1) (pa_cons (pv 2) (pa_cons (pv 3) pa_nil)))))) (pss_one ps_never) pss_nil)
        (pss_cons (ps_if (pt_not (pt_val (pe_g G_are_tells (hr.mono (by decide)) (by rfl) (pa_cons (pv 2) (pa_cons (pv 4) pa_nil))))) (pss_one ps_never) pss_nil)
        (pss_cons (ps_fld (pv 0) (pv 1) rfl)
        (pss_cons (ps_fld (pv 0) (pv 2) rfl)
        (pss_cons (ps_fld (pv 0) (pe_callTy (kcall_tup (K := K)) (by rfl) Tx.b_tuple (by decide +kernel) (pa_cons (pe_lc (own := [("move", 5)]) (g := gName 5) (tt := tYes) rfl sc_Machine_init.nd (kpi_tup (K := K) (pv 3)) (blkOk_by (own := [("move", 5)]) (N := ["self", "office", "many", "moves", "tells", "move"]) (sc := (defScope s_Machine_init)) (by decide +kernel)) (fun _ _ _ _ _ => (pg_name (i := 5) sc_Machine_init.nd rfl (Or.inl rfl))) (fun _ _ _ _ _ => pts_nil) (fun _ _ _ _ _ => (pe_callTy (call_copyT hu2) (by rfl) Tx.b_dict (by decide +kernel) (pa_cons (pv 5) pa_nil)))) pa_nil)) rfl)
        (pss_one (ps_fld (pv 0) (pe_callTy (call_copyT hu2) (by rfl) Tx.b_dict (by decide +kernel) (pa_cons (pv 4) pa_nil)) rfl)))))))), ?_⟩
    have sm := ok.sm
    have p36 := sm.prod
    have six := sm.six
    have w10 := ok.off.w10
    refine ⟨_, rfl, _, rfl, o, _, M.d, M.ws, M.many, rfl, ho, t1, ok.len, ok.off.d4, ok.one, by omega, fun H1 k1 => ⟨true, rfl, iteF ?_⟩⟩
    dsimp only [tNext, tSeq]
    refine ⟨_, rfl, _, rfl, _, rfl, o, _, _, M, rfl, ho.kp k1 (fun z => nomatch z), t1.tk k1.tk, hm.kp k1 NoD.nil, ok, fun H2 k2 => ⟨true, rfl, iteF ?_⟩⟩
    dsimp only [tNext, tSeq]
    have k12 := k1.trans k2
    refine ⟨_, rfl, _, rfl, _, _, M.many, M.tl, rfl, t1.tk k12.tk, ht.kp k12 NoD.nil, six.1, six.2, ok.tl, fun H3 k3 => ⟨true, rfl, iteF ?_⟩⟩
    dsimp only [tNext, tSeq]
    have k13 := k12.trans k3
    have e1 := len_putF "office" (.ref o) []
    have e2 := len_putF "many" v1 (putF "office" (.ref o) [])
    simp at e1
    refine ⟨_, rfl, _, rfl, p, _, dx, _, rfl, k13.get hp, fm.cl, fm.office, by decide, ?_⟩
    refine ⟨_, rfl, _, rfl, p, _, dx, _, rfl, upd_same, fm.cl, fm.many, by omega, ?_⟩
    have l1 : (putF "many" v1 (putF "office" (.ref o) [])).lookup ("office" : Str) = some (.ref o) := by rw [lookup_putF, if_neg (by decide +kernel), lookup_putF, if_pos rfl]
    have l2 : (putF "many" v1 (putF "office" (.ref o) [])).lookup ("many" : Str) = some v1 := by rw [lookup_putF, if_pos rfl]
    have k4 : Kp [p] H (upd (upd H3 p (.ins CMachine dx (putF "office" (.ref o) []))) p (.ins CMachine dx (putF "many" v1 (putF "office" (.ref o) [])))) := (k13.any.trans (Kp.refl.put List.mem_cons_self fun xs e => by rw [k13.get hp] at e; cases e)).trans (Kp.refl.put List.mem_cons_self fun xs e => by rw [upd_same] at e; cases e)
    have p4 : (upd (upd H3 p (.ins CMachine dx (putF "office" (.ref o) []))) p (.ins CMachine dx (putF "many" v1 (putF "office" (.ref o) [])))) p = some (.ins CMachine dx (putF "many" v1 (putF "office" (.ref o) []))) := upd_same
    generalize upd (upd H3 p (.ins CMachine dx (putF "office" (.ref o) []))) p (.ins CMachine dx (putF "many" v1 (putF "office" (.ref o) []))) = H4 at k4 p4
    have f1 : (putF "many" v1 (putF "office" (.ref o) [])).length ≤ 2 := by omega
    generalize putF "many" v1 (putF "office" (.ref o) []) = F1 at p4 l1 l2 f1
    have nd : NoD [p] H := fun q kvs e m => by rw [List.mem_singleton.mp m, hp] at e; cases e
    have hm4 := hm.kp k4 nd
    have hmo := hm4
    obtain ⟨am, mvs, rfl, ham, hml, hmx⟩ := hmo
    dsimp only [tSeq]
    unfold sFld
    refine t_tupW (walk_tup (K := K) (a := am) (xs := mvs)) (ch := []) (H1 := H4) (fun R q => ⟨_, rfl, am, rfl, ⟨_, SqT.of ham⟩, q⟩) (fun i ys H' => ys.length = i ∧ ∀ (w : Nat) y, ys[w]? = some y → MoveAt H' y (M.manyOf w) (M.mv w)) no_ch (by omega) (fun H5 k5 => SqT.of (k5.tup ham)) (fun D _ => ⟨rfl, fun w y e => by simp at e⟩) ?_ ?_
    · rintro D w x H6 H5 ys QT QF hD hw k5 hys ⟨hl, hW⟩ ⟨rfl, hx⟩ qT qF
      obtain ⟨c, kvs, rfl, hc, hk2, hk3⟩ := (hmx w x hx).kp k5 NoD.nil
      refine ⟨rfl, r_yes ⟨_, rfl, c, kvs, (allN (M.manyOf w)).map iz, rfl, hc, by rw [hk2, List.map_map]; rfl, (ok.smW (by omega)).hash, fun r nr => qT _ _ (Kp.new nr) ⟨by rw [List.length_append, hl]; rfl, fun j y e => ?_⟩⟩⟩
      have hrD : r ≠ D := fun e => by rw [e, hys] at nr; cases nr
      have kr : Kp [] H5 (upd H5 r (.dT kvs)) := Kp.new nr
      have hD2 : (upd H5 r (.dT kvs)) D = some (.lst ys) := kr.get hys
      have kD : Kp [D] (upd H5 r (.dT kvs)) (upd (upd H5 r (.dT kvs)) D (.lst (ys ++ [.ref r]))) := Kp.refl.put List.mem_cons_self fun xs e => by rw [hD2] at e; cases e
      have ndD : NoD [D] (upd H5 r (.dT kvs)) := fun q kvs e m => by rw [List.mem_singleton.mp m, hD2] at e; cases e
      by_cases hj : j < ys.length
      · rw [List.getElem?_append_left hj] at e
        exact ((hW j y e).kp kr NoD.nil).kp kD ndD
      · rw [List.getElem?_append_right (by omega)] at e
        have hj0 : j - ys.length = 0 := by
          have := (List.getElem?_eq_some_iff.mp e).1
          simp at this
          omega
        rw [hj0] at e
        have ey : .ref r = y := by simpa using e
        subst ey
        have ej : j = w := by omega
        subst ej
        refine MoveAt.kp kD ndD ⟨r, kvs, rfl, upd_same, hk2, fun x hx => let ⟨y, e, r⟩ := hk3 x hx; ⟨y, e, T1.tk kr.tk r⟩⟩
    · rintro D ys H5 q hD k5 hys hyl ⟨hl, hW⟩ hq
      have kq : Kp [] H5 (upd H5 q (.tup ys)) := Kp.new hq
      have k6 : Kp [p] H (upd H5 q (.tup ys)) := (k4.trans k5.any).trans kq.any
      have p6 := kq.get (k5.get p4)
      have hW6 : MovesAt (upd H5 q (.tup ys)) (.ref q) M := ⟨q, ys, rfl, upd_same, by omega, fun w x e => (hW w x e).kp kq NoD.nil⟩
      refine ⟨_, rfl, p, _, dx, _, rfl, p6, fm.cl, fm.moves, by omega, ?_⟩
      have k7 : Kp [p] H (upd (upd H5 q (.tup ys)) p (.ins CMachine dx (putF "kept_moves" (.ref q) F1))) := k6.trans (Kp.refl.put List.mem_cons_self fun xs e => by rw [p6] at e; cases e)
      have k67 : Kp [p] (upd H5 q (.tup ys)) (upd (upd H5 q (.tup ys)) p (.ins CMachine dx (putF "kept_moves" (.ref q) F1))) := Kp.refl.put List.mem_cons_self fun xs e => by rw [p6] at e; cases e
      have nd6 : NoD [p] (upd H5 q (.tup ys)) := fun q kvs e m => by rw [List.mem_singleton.mp m, p6] at e; cases e
      have hW7 := hW6.kp k67 nd6
      have p7 : (upd (upd H5 q (.tup ys)) p (.ins CMachine dx (putF "kept_moves" (.ref q) F1))) p = some (.ins CMachine dx (putF "kept_moves" (.ref q) F1)) := upd_same
      generalize upd (upd H5 q (.tup ys)) p (.ins CMachine dx (putF "kept_moves" (.ref q) F1)) = H7 at k7 hW7 p7
      have g1 : (putF "kept_moves" (.ref q) F1).lookup ("office" : Str) = some (.ref o) := by rw [lookup_putF, if_neg (by decide +kernel)]; exact l1
      have g2 : (putF "kept_moves" (.ref q) F1).lookup ("many" : Str) = some v1 := by rw [lookup_putF, if_neg (by decide +kernel)]; exact l2
      have g3 : (putF "kept_moves" (.ref q) F1).lookup ("kept_moves" : Str) = some (.ref q) := by rw [lookup_putF, if_pos rfl]
      have g4 := len_putF "kept_moves" (.ref q) F1
      generalize putF "kept_moves" (.ref q) F1 = F2 at p7 g1 g2 g3 g4
      have ht7 := ht.kp k7 nd
      obtain ⟨c, kvs, rfl, hc, hk2, hk3⟩ := ht7
      refine ⟨_, rfl, c, kvs, (allN M.many).map iz, rfl, hc, by rw [hk2, List.map_map]; rfl, sm.hash, fun r nr => ?_⟩
      have kr : Kp [] H7 (upd H7 r (.dT kvs)) := Kp.new nr
      have p8 := kr.get p7
      refine ⟨_, rfl, p, _, dx, _, rfl, p8, fm.cl, fm.tells, by omega, ?_⟩
      have k8 : Kp [p] (upd H7 r (.dT kvs)) (upd (upd H7 r (.dT kvs)) p (.ins CMachine dx (putF "kept_tells" (.ref r) F2))) := Kp.refl.put List.mem_cons_self fun xs e => by rw [p8] at e; cases e
      have nd8 : NoD [p] (upd H7 r (.dT kvs)) := fun q kvs e m => by rw [List.mem_singleton.mp m, p8] at e; cases e
      have hT8 : TellAt (upd H7 r (.dT kvs)) (.ref r) M.many M.tl := ⟨r, kvs, rfl, upd_same, hk2, hk3⟩
      refine k _ ((k7.trans kr.any).trans k8) ⟨fm, dx, _, _, _, _, upd_same, by rw [lookup_putF, if_neg (by decide +kernel)]; exact g1, by rw [lookup_putF, if_neg (by decide +kernel)]; exact g2, ((t1.tk k7.tk).tk kr.tk).tk k8.tk, by rw [lookup_putF, if_neg (by decide +kernel)]; exact g3, ((hW7.kp kr NoD.nil).kp k8 nd8), by rw [lookup_putF, if_pos rfl], hT8.kp k8 nd8⟩

abbrev s_first_notes : Stmt := top 46
theorem sc_first_notes : FnScope ["machine"] ["machine"] (defScope s_first_notes) := ⟨rfl, rfl, rfl, by decide +kernel, rfl, by decide +kernel, by decide +kernel⟩
theorem ok_first_notes {f : Addr} {fd : FuncData} (F : Fun K "first_notes" "first_notes" s_first_notes f fd) (Tx : Txt mg)  : FnOk P w K mg base CX0 1 f fd ["machine"] (sp_first_notes K COffice CMachine) := by
  refine F.ok sc_first_notes (fun vs H Q E h => ?_) (fun cdv A outer s H vs Q E hr h => ?_)
  · obtain ⟨m, o, M, rfl, ⟨hm, ho, ok⟩, k⟩ := h
    rfl
  · obtain ⟨m, o, M, rfl, ⟨hm, ho, ok⟩, k⟩ := h
    refine ⟨_, (pss_one (ps_ret (pe_op (kop_repA (K := K)) (pe_tup (pa_cons pe_int pa_nil)) (kpe_fld (K := K) (kpe_fld (K := K) (pv 0) rfl) rfl)))), ?_⟩
    obtain ⟨fm, dxm, fsm, m1, m2, m3, hmm, g1, _⟩ := hm
    obtain ⟨fo, dxo, fso, vo, hoo, ho1, ho2, ho3⟩ := ho
    have d1 := ok.off.d1
    have d4 := ok.off.d4
    refine ⟨by decide, fun p hp => ⟨_, rfl, m, _, dxm, fsm, _, rfl, (Kp.new hp).get hmm, fm.cl, fm.office, g1, o, _, dxo, fso, _, rfl, (Kp.new hp).get hoo, fo.cl, fo.desks, ho1, ?_⟩⟩
    refine ⟨p, _, _, rfl, rfl, SqT.of upd_same, by simp, by omega, by omega, by simp, fun e => k _ _ (Kp.new hp) ⟨p, rfl, ?_⟩, fun e q hq => k _ _ ((Kp.new hp).new' hq) ⟨q, rfl, ?_⟩⟩
    · have e2 : M.d = 1 := by omega
      rw [upd_same]
      unfold Mach.first
      rw [e2]
      rfl
    · rw [upd_same]
      unfold Mach.first
      rw [Int.toNat_natCast, rep_zero]

abbrev s_moved : Stmt := top 47
theorem sc_moved : FnScope ["machine", "notes", "work", "lot", "desk", "later", "found", "item"] ["machine", "notes", "work"] (defScope s_moved) := ⟨rfl, rfl, rfl, by decide +kernel, rfl, by decide +kernel, by decide +kernel⟩
theorem ok_moved {f : Addr} {fd : FuncData} (F : Fun K "moved" "moved" s_moved f fd) (Tx : Txt mg)  : FnOk P w K mg base CX0 1 f fd ["machine", "notes", "work"] (sp_moved K COffice CMachine) := by
  refine F.ok sc_moved (fun vs H Q E h => ?_) (fun cdv A outer s H vs Q E hr h => ?_)
  · obtain ⟨m, o, v, M, ns, i, rfl, hB, ⟨b, rfl, hb⟩, f, hi, k⟩ := h
    rfl
  · obtain ⟨m, o, v, M, ns, i, rfl, hB, ⟨b, rfl, hb⟩, f, hi, k⟩ := h
    have hu := hu_of hr
    refine ⟨_, (pss_cons (ps_set (i := 3) sc_moved.nd rfl (Or.inl rfl) (pe_ix (kix_tup (K := K)) (kpe_fld (K := K) (kpe_fld (K := K) (pv 0) rfl) rfl) (pv 2) (fun _ _ => rfl)))
        (pss_cons (ps_set (i := 5) sc_moved.nd rfl (Or.inl rfl) (pe_dget hu (pe_ix (kix_tup (K := K)) (kpe_fld (K := K) (pv 0) rfl) (pv 2) (fun _ _ => rfl)) (pe_callTy (kcall_tup (K := K)) (by rfl) Tx.b_tuple (by decide +kernel) (pa_cons (pe_lc (own := [("desk", 4)]) (g := gName 4) (tt := tYes) rfl sc_moved.nd (kpi_tup (K := K) (pv 3)) (blkOk_by (own := [("desk", 4)]) (N := ["machine", "notes", "work", "lot", "desk", "later", "found", "item"]) (sc := (defScope s_moved)) (by decide +kernel)) (fun _ _ _ _ _ => (pg_name (i := 4) sc_moved.nd rfl (Or.inl rfl))) (fun _ _ _ _ _ => pts_nil) (fun _ _ _ _ _ => (pe_ix (kix_tup (K := K)) (pv 1) (pv 4) (fun _ _ => rfl)))) pa_nil)) (fun _ _ => rfl)))
        (pss_cons (ps_set (i := 6) sc_moved.nd rfl (Or.inl rfl) (pe_callTy (kcall_lst (K := K)) (by rfl) Tx.b_list (by decide +kernel) (pa_cons (pv 1) pa_nil)))
        (pss_cons (ps_for PassesOwn.never rfl (kpi_zip (K := K) (by rfl) Tx.b_zip (pa_cons (pv 3) (pa_cons (pv 5) pa_nil))) (kpg_tup (K := K) rfl (pgs_cons (pg_name (i := 4) sc_moved.nd rfl (Or.inl rfl)) (pgs_cons (pg_name (i := 7) sc_moved.nd rfl (Or.inl rfl)) pgs_nil)))
        (pss_one (ps_asg (pv 7) (pg_sub (pv 6) (pv 4) set_list))))
        (pss_one (ps_ret (pe_callTy (kcall_tup (K := K)) (by rfl) Tx.b_tuple (by decide +kernel) (pa_cons (pv 6) pa_nil)))))))), ?_⟩
    obtain ⟨hm, ho, ok⟩ := hB
    obtain ⟨fm, dxm, fsm, m1, m2, m3, hmm, g1, g2, g3, g4, g5, g6, g7⟩ := hm
    obtain ⟨fo, dxo, fso, vo, hoo, ho1, ho2, ho3⟩ := ho
    obtain ⟨aw, wsv, rfl, haw, hwl, hwx⟩ := ho3
    obtain ⟨am, mvs, rfl, ham, hml, hmx⟩ := g5
    have w1 := lotOf_at hi
    have hwi : wsv[i]? = some wsv[i] := List.getElem?_eq_getElem (by omega)
    obtain ⟨al, hal, hlot⟩ := hwx i _ _ hwi w1
    have hmi : mvs[i]? = some mvs[i] := List.getElem?_eq_getElem (by omega)
    have hmv := hmx i _ hmi
    have lo := lotOf_ok ok.off hi
    have l10 := lot_ten ok.off _ (List.mem_of_getElem? w1)
    refine ⟨_, rfl, m, _, dxm, fsm, _, rfl, hmm, fm.cl, fm.office, g1, o, _, dxo, fso, _, rfl, hoo, fo.cl, fo.works, ho2, _, rfl, aw, _, _, _, rfl, rfl, SqT.of haw, at_of rfl hwi, ?_⟩
    rw [hal]
    refine ⟨_, rfl, m, _, dxm, fsm, _, rfl, hmm, fm.cl, fm.moves, g4, _, rfl, am, _, _, _, rfl, rfl, SqT.of ham, at_of rfl hmi, ?_⟩
    refine t_tup1 (walk_tup (K := K) (a := al) (xs := vz (lotOf M.ws i))) (ch := []) (H1 := H) (fun R q => ⟨_, rfl, al, rfl, ⟨_, SqT.of hlot⟩, q⟩) (pick ns (lotOf M.ws i)) (by rw [vz_len, pick_len]) no_ch (by rw [vz_len]; omega) (fun H1 k1 => SqT.of (k1.tup hlot)) yk_at ?_ ?_
    · rintro j x1 x H2 H1 Q' hj hm1 k1 ⟨rfl, hx1⟩ q
      obtain ⟨n, hn, rfl⟩ := vz_of hx1
      have h2 : n < ns.length := by rw [f.1]; exact ok.lt hi n (List.mem_of_getElem? hn)
      have e1 := pick_at (ns := ns) hn
      rw [hm1] at e1
      injection e1 with e1
      exact ⟨rfl, _, rfl, _, rfl, _, _, _, _, rfl, rfl, SqT.of (k1.tup hb), at_of rfl (vz_some (by rw [e1]; exact get_of h2)), q _ Kp.refl⟩
    rintro v H1 k1 ⟨kb, rfl, hkb⟩
    obtain ⟨p, y, ep, dg, hy⟩ := (hmv.kp k1 NoD.nil).get (mem_allN.mpr (ok.pickFit hi f)) hkb
    refine ⟨p, y, ep, dg, ?_⟩
    obtain ⟨lb, rfl, hlb⟩ := hy
    have ft := ok.mv i _ hi (ok.pickFit hi f)
    have fl : (M.mv i (pick ns (lotOf M.ws i))).length = (lotOf M.ws i).length := by rw [ft.1]; exact pick_len ..
    refine ⟨_, rfl, b, _, rfl, .inr (SqT.of (k1.tup hb)), fun l hl => ?_⟩
    have nl : H l = none := k1.free l hl
    have k2 : Kp [] H (upd H1 l (.lst (vz ns))) := k1.mut nl
    have hlot2 := k2.tup hlot
    have hlb2 : (upd H1 l (.lst (vz ns))) lb = some (.tup (vz (M.mv i (pick ns (lotOf M.ws i))))) := by rw [upd_ne (ne_of2 hlb hl)]; exact hlb
    have nlb : lb ≠ l := ne_of2 hlb hl
    have nal : al ≠ l := ne_of2 hlot nl
    refine ⟨_, rfl, _, rfl, al, lb, _, _, rfl, .inr ⟨SqT.of hlot2, SqT.of hlb2, ?_⟩⟩
    refine for_it (walk_zipTT (K := K) (a := al) (b := lb) (xs := vz (lotOf M.ws i)) (ys := vz (M.mv i (pick ns (lotOf M.ws i)))) (n := (lotOf M.ws i).length) (by rw [vz_len, vz_len, fl]; omega))
      (fun j σ H' => Kp [] H H' ∧ H' lb = some (.tup (vz (M.mv i (pick ns (lotOf M.ws i))))) ∧ H' l = some (.lst (vz (puts (((lotOf M.ws i).zip (M.mv i (pick ns (lotOf M.ws i)))).take j) ns))) ∧ ∃ x y, σ = [some (.ref m), some (.ref b), some (.int (i : Int)), some (.ref al), x, some (.ref lb), some (.ref l), y]) ⟨k2, hlb2, upd_same, _, _, rfl⟩ (fun j σ H' hj q => ⟨SqT.of (q.1.tup hlot), SqT.of q.2.1⟩) ?_ ?_
    · rintro j x σ H3 H4 hj ⟨k3, hlb3, hl3, z1, z2, rfl⟩ ⟨T, x1, y1, rfl, hT, rfl, hx1, hy1⟩
      obtain ⟨n, hn, rfl⟩ := vz_of hx1
      obtain ⟨c, hc, rfl⟩ := vz_of hy1
      have h2 : n < ns.length := by rw [f.1]; exact ok.lt hi n (List.mem_of_getElem? hn)
      have ln : (vz (puts (((lotOf M.ws i).zip (M.mv i (pick ns (lotOf M.ws i)))).take j) ns)).length = ns.length := by rw [vz_len, puts_len]
      refine ⟨T, _, rfl, SqT.of upd_same, rfl, _, _, rfl, _, _, rfl, rfl, ?_⟩
      refine ⟨_, rfl, _, rfl, _, rfl, l, _, _, n, rfl, rfl, by rw [upd_ne (ne_of2 hl3 hT)]; exact hl3, by rw [ln]; exact set_at h2, ?_⟩
      refine ⟨(k3.new' hT).mut nl, by rw [upd_ne nlb, upd_ne (ne_of2 hlb3 hT)]; exact hlb3, ?_, _, _, rfl⟩
      rw [upd_same, List.take_add_one, show ((lotOf M.ws i).zip (M.mv i (pick ns (lotOf M.ws i))))[j]? = some (n, c) from by rw [List.getElem?_zip_eq_some]; exact ⟨hn, hc⟩, Option.toList_some, puts_snoc, vz_set]
    rintro σ H3 ⟨k3, hlb3, hl3, z1, z2, rfl⟩
    refine ⟨_, rfl, l, _, rfl, .inl ⟨SqL.of hl3, fun r hr2 => k _ _ (k3.new' hr2) ⟨r, rfl, ?_⟩⟩⟩
    rw [upd_same, List.take_of_length_le (by rw [List.length_zip, fl]; omega)]
    rfl

abbrev s_notes_there : Stmt := top 48
theorem sc_notes_there : FnScope ["machine", "row", "notes", "work"] ["machine", "row"] (defScope s_notes_there) := ⟨rfl, rfl, rfl, by decide +kernel, rfl, by decide +kernel, by decide +kernel⟩
theorem ok_notes_there {f : Addr} {fd : FuncData} (F : Fun K "notes_there" "notes_there" s_notes_there f fd) (Tx : Txt mg) (G_first_notes : Gf P w K mg base "first_notes" ["machine"] 1 (sp_first_notes K COffice CMachine)) (G_moved : Gf P w K mg base "moved" ["machine", "notes", "work"] 1 (sp_moved K COffice CMachine)) : FnOk P w K mg base CX0 2 f fd ["machine", "row"] (sp_notes_there K COffice CMachine) := by
  refine F.ok sc_notes_there (fun vs H Q E h => ?_) (fun cdv A outer s H vs Q E hr h => ?_)
  · obtain ⟨m, o, v, M, row, rfl, hB, ⟨a, rfl, ha⟩, hr2, k⟩ := h
    rfl
  · obtain ⟨m, o, v, M, row, rfl, hB, ⟨a, rfl, ha⟩, hr2, k⟩ := h
    refine ⟨_, (pss_cons (ps_set (i := 2) sc_notes_there.nd rfl (Or.inl rfl) (pe_g G_first_notes (hr.mono (by decide)) (by rfl) (pa_cons (pv 0) pa_nil)))
        (pss_cons (ps_for PassesOwn.never rfl (kpi_tup (K := K) (pv 1)) (pg_name (i := 3) sc_notes_there.nd rfl (Or.inl rfl))
        (pss_one (ps_set (i := 2) sc_notes_there.nd rfl (Or.inl rfl) (pe_g G_moved (hr.mono (by decide)) (by rfl) (pa_cons (pv 0) (pa_cons (pv 2) (pa_cons (pv 3) pa_nil)))))))
        (pss_one (ps_ret (pv 2))))), ?_⟩
    refine ⟨_, rfl, m, o, M, rfl, hB, fun v1 H1 k1 t1 => ?_⟩
    refine ⟨_, rfl, a, rfl, ⟨_, SqT.of (k1.tup ha)⟩, ?_⟩
    refine for_it (walk_tup (K := K) (a := a) (xs := vz row)) (fun i σ H' => Kp [] H H' ∧ ∃ u x, T1 H' u (M.run M.first (row.take i)) ∧ σ = [some (.ref m), some (.ref a), some u, x]) ⟨k1, v1, none, t1, rfl⟩ (fun i σ H' hi q => SqT.of (q.1.tup ha)) ?_ ?_
    · rintro i x σ H3 H2 hi ⟨k2, u, z, t2, rfl⟩ ⟨rfl, hx⟩
      obtain ⟨n, hn, rfl⟩ := vz_of hx
      have f : Fit M.many (M.run M.first (row.take i)) := hB.2.2.run _ (fun j hj => hr2 j (List.mem_of_mem_take hj)) hB.2.2.first
      refine ⟨_, rfl, _, rfl, _, rfl, m, o, u, M, _, n, rfl, hB.kp k2, t2, f, hr2 n (List.mem_of_getElem? hn), fun v' H3 k3 t3 => ⟨k2.trans k3, v', _, ?_, rfl⟩⟩
      rw [List.take_add_one, hn, Option.toList_some, run_snoc]
      exact t3
    · rintro σ H2 ⟨k2, u, z, t2, rfl⟩
      rw [vz_len, List.take_length] at t2
      exact ⟨_, rfl, k u H2 k2 t2⟩

abbrev s_told_there : Stmt := top 49
theorem sc_told_there : FnScope ["machine", "row"] ["machine", "row"] (defScope s_told_there) := ⟨rfl, rfl, rfl, by decide +kernel, rfl, by decide +kernel, by decide +kernel⟩
theorem ok_told_there {f : Addr} {fd : FuncData} (F : Fun K "told_there" "told_there" s_told_there f fd) (Tx : Txt mg) (G_check_row : Gf P w K mg base "check_row" ["office", "thing"] 5 (sp_check_row K COffice)) (G_notes_there : Gf P w K mg base "notes_there" ["machine", "row"] 2 (sp_notes_there K COffice CMachine)) : FnOk P w K mg base CX0 6 f fd ["machine", "row"] (sp_told_there K COffice CMachine) := by
  refine F.ok sc_told_there (fun vs H Q E h => ?_) (fun cdv A outer s H vs Q E hr h => ?_)
  · obtain ⟨m, o, v, M, row, rfl, hB, hv, h10, hr2, k⟩ := h
    rfl
  · obtain ⟨m, o, v, M, row, rfl, hB, hv, h10, hr2, k⟩ := h
    have hu := hu_of hr
    refine ⟨_, (pss_cons (ps_expr (pe_g G_check_row (hr.mono (by decide)) (by rfl) (pa_cons (kpe_fld (K := K) (pv 0) rfl) (pa_cons (pv 1) pa_nil))))
        (pss_one (ps_ret (pe_dget hu (kpe_fld (K := K) (pv 0) rfl) (pe_g G_notes_there (hr.mono (by decide)) (by rfl) (pa_cons (pv 0) (pa_cons (pv 1) pa_nil))) (fun _ _ => rfl))))), ?_⟩
    have hB' := hB
    obtain ⟨hm, ho, ok⟩ := hB
    obtain ⟨fm, dxm, fsm, m1, m2, m3, hmm, g1, g2, g3, g4, g5, g6, g7⟩ := hm
    refine ⟨_, rfl, m, _, dxm, fsm, _, rfl, hmm, fm.cl, fm.office, g1, _, rfl, o, v, M.d, M.ws, row, rfl, ho, hv, h10, hr2, fun H1 k1 => ?_⟩
    refine ⟨_, rfl, m, _, dxm, fsm, _, rfl, k1.get hmm, fm.cl, fm.tells, g6, _, rfl, _, rfl, m, o, v, M, row, rfl, hB'.kp k1, hv.tk k1.tk, hr2, fun v' H2 k2 t2 => ?_⟩
    obtain ⟨b, rfl, hb⟩ := t2
    obtain ⟨p, y, ep, dg, hy⟩ := (g7.kp (k1.trans k2) NoD.nil).get (mem_allN.mpr (ok.run row hr2 ok.first)) hb
    refine ⟨p, y, ep, dg, ?_⟩
    rw [hy]
    exact k H2 (k1.trans k2)

abbrev s_met_notes : Stmt := top 50
theorem sc_met_notes : FnScope ["machine", "found", "known", "at", "work", "later"] ["machine"] (defScope s_met_notes) := ⟨rfl, rfl, rfl, by decide +kernel, rfl, by decide +kernel, by decide +kernel⟩
theorem ok_met_notes {f : Addr} {fd : FuncData} (F : Fun K "met_notes" "met_notes" s_met_notes f fd) (Tx : Txt mg) (G_first_notes : Gf P w K mg base "first_notes" ["machine"] 1 (sp_first_notes K COffice CMachine)) (G_moved : Gf P w K mg base "moved" ["machine", "notes", "work"] 1 (sp_moved K COffice CMachine)) : FnOk P w K mg base CX0 2 f fd ["machine"] (sp_met_notes K COffice CMachine) := by
  refine F.ok sc_met_notes (fun vs H Q E h => ?_) (fun cdv A outer s H vs Q E hr h => ?_)
  · obtain ⟨m, o, M, n, order, rfl, hB, met, k⟩ := h
    rfl
  · obtain ⟨m, o, M, n, order, rfl, hB, met, k⟩ := h
    have hu := hu_of hr
    refine ⟨_, (pss_cons (ps_set (i := 1) sc_met_notes.nd rfl (Or.inl rfl) (pe_lst (pa_cons (pe_g G_first_notes (hr.mono (by decide)) (by rfl) (pa_cons (pv 0) pa_nil)) pa_nil)))
        (pss_cons (ps_set (i := 2) sc_met_notes.nd rfl (Or.inl rfl) (pe_dispT hu (pe_ix (kix_list (K := K)) (pv 1) pe_int (fun _ _ => rfl)) pe_bl))
        (pss_cons (ps_set (i := 3) sc_met_notes.nd rfl (Or.inl rfl) pe_int)
        (pss_cons (ps_while PassesOwn.never (pt_cmpR op_lt (pv 3) (pe_callB (kcall_len (K := K)) (by rfl) Tx.b_len (by decide +kernel) (pa_cons (pv 1) pa_nil)) (nomark _))
        (pss_cons (ps_for PassesOwn.never rfl (pi_range1 (by rfl) Tx.b_range (pa_cons (pe_callB (kcall_len (K := K)) (by rfl) Tx.b_len (by decide +kernel) (pa_cons (kpe_fld (K := K) (kpe_fld (K := K) (pv 0) rfl) rfl) pa_nil)) pa_nil)) (pg_name (i := 4) sc_met_notes.nd rfl (Or.inl rfl))
        (pss_cons (ps_set (i := 5) sc_met_notes.nd rfl (Or.inl rfl) (pe_g G_moved (hr.mono (by decide)) (by rfl) (pa_cons (pv 0) (pa_cons (pe_ix (kix_list (K := K)) (pv 1) (pv 3) (fun _ _ => rfl)) (pa_cons (pv 4) pa_nil)))))
        (pss_one (ps_if (pt_cmp (pc_dnotin hu (pv 5) (pv 2))) (pss_cons (ps_dput hu (pv 2) (pv 5) pe_bl rfl)
        (pss_one (ps_expr (kpe_bm (K := K) (pe_bm PySem.F.plainAttrs_list PySem.F.slot_list_append PySem.F.type_list_append mt_append (pv 1) (pa_cons (pv 5) pa_nil)))))) pss_nil))))
        (pss_one (ps_aug (i := 3) sc_met_notes.nd rfl (Or.inl rfl) pe_int ip_add))))
        (pss_one (ps_ret (pv 1))))))), ?_⟩
    have ok := hB.2.2
    have w10 := ok.off.w10
    generalize eS : sysM M = S at met
    have Snw : S.nw = M.ws.length := by rw [← eS]; rfl
    have Snext : ∀ s w, S.next s w = M.next s w := fun s w => by rw [← eS]; rfl
    refine ⟨_, rfl, m, o, M, rfl, hB, fun v0 H1 k1 t1 => ⟨one_le, fun l nl => fun kd nkd => ?_⟩⟩
    obtain ⟨b0, rfl, hb0⟩ := t1
    have kl : Kp [] H1 (upd H1 l (.lst [.ref b0])) := Kp.new nl
    have nlH : H l = none := k1.free _ nl
    have nkH : H kd = none := k1.free _ (kl.free _ nkd)
    have kk : Kp [] (upd H1 l (.lst [.ref b0])) (upd (upd H1 l (.lst [.ref b0])) kd (.dT [])) := Kp.new nkd
    refine ⟨_, rfl, l, _, _, _, rfl, rfl, SqL.of (kk.get upd_same), at_of (j := 0) rfl rfl, upd_same, b0, iz M.first, rfl, by rw [iz_V]; exact kk.get (kl.get hb0), ?_⟩
    have hl2 : (upd (upd (upd H1 l (.lst [.ref b0])) kd (.dT [])) kd (.dT [(ik (iz M.first), .bl true)])) l = some (.lst [.ref b0]) := by rw [upd_ne (ne_of2 (H := upd H1 l (.lst [.ref b0])) upd_same nkd), upd_ne (ne_of2 (H := upd H1 l (.lst [.ref b0])) upd_same nkd)]; exact upd_same
    have k2 : Kp [] H (upd (upd (upd H1 l (.lst [.ref b0])) kd (.dT [])) kd (.dT [(ik (iz M.first), .bl true)])) := ((k1.trans kl).trans kk).mut nkH
    have t2 : T1 (upd (upd (upd H1 l (.lst [.ref b0])) kd (.dT [])) kd (.dT [(ik (iz M.first), .bl true)])) (.ref b0) M.first := ⟨b0, rfl, Tk.put (fun xs e => by rw [upd_same] at e; cases e) _ _ (kk.get (kl.get hb0))⟩
    have hk2 : KnD (upd (upd (upd H1 l (.lst [.ref b0])) kd (.dT [])) kd (.dT [(ik (iz M.first), .bl true)])) kd [M.first] := ⟨_, upd_same, rfl⟩
    generalize upd (upd (upd H1 l (.lst [.ref b0])) kd (.dT [])) kd (.dT [(ik (iz M.first), .bl true)]) = H2 at k2 hl2 t2 hk2
    refine ⟨fun c σ H' => ∃ i found x4 x5, Met S (FewM (Fit M.many)) c i found order ∧ Kp [] H H' ∧ LR T1 H' l found ∧ KnD H' kd found ∧ σ = [some (.ref m), some (.ref l), some (.ref kd), some (.int (i : Int)), x4, x5],
      ⟨n, 0, [M.first], none, none, met, k2, LR.one hl2 t2, hk2, rfl⟩, ?_⟩
    rintro c σ H3 ⟨i, found, x4, x5, B, k3, ⟨vs, hl3, hvl, hvx⟩, hk3, rfl⟩
    obtain ⟨⟨glen, gok⟩, lend, lstep⟩ := B.look
    refine ⟨_, rfl, _, rfl, l, vs, rfl, .inl (SqL.of hl3), _, _, rfl, rfl, _, rfl, ?_⟩
    by_cases hi : ¬ i < found.length
    · rw [decide_eq_false (by rw [hvl]; omega)]
      have e := lend (by omega)
      subst e
      exact iteF ⟨_, rfl, k l H3 k3 nlH ⟨vs, hl3, hvl, hvx⟩⟩
    replace hi := Decidable.not_not.mp hi
    rw [decide_eq_true (by rw [hvl]; omega)]
    obtain ⟨s0, es0⟩ : ∃ s0, found[i]? = some s0 := ⟨_, List.getElem?_eq_getElem hi⟩
    obtain ⟨c', hc', B'⟩ := lstep s0 es0
    have fit0 := gok s0 (List.mem_of_getElem? es0)
    refine iteT ⟨fun σ H' => ∃ x4 x5, Kp [] H H' ∧ LR T1 H' l (meets S found s0) ∧ KnD H' kd (meets S found s0) ∧ σ = [some (.ref m), some (.ref l), some (.ref kd), some (.int ((i + 1 : Nat) : Int)), x4, x5], ?_, ?_⟩
    · rintro σ H4 ⟨x4, x5, h1, h2, h3, rfl⟩
      exact ⟨c', hc', i + 1, _, x4, x5, B', h1, h2, h3, rfl⟩
    have hB3 := hB.kp k3
    obtain ⟨⟨fm, dxm, fsm, m1, m2, m3, hmm, g1, _⟩, ⟨fo, dxo, fso, vo, hoo, ho1, ho2, aw, wsv, rfl, haw, hwl, hwx⟩, _⟩ := hB3
    refine ⟨_, rfl, m, _, dxm, fsm, _, rfl, hmm, fm.cl, fm.office, g1, o, _, dxo, fso, _, rfl, hoo, fo.cl, fo.works, ho2, aw, _, rfl, .inr (SqT.of haw), _, rfl, by omega, by omega, ?_⟩
    refine for_it (walk_range (lo := 0) (n := ((wsv.length : Nat) : Int).toNat)) (fun w σ H' => Kp [] H H' ∧ LR T1 H' l (mUpTo S found s0 w) ∧ KnD H' kd (mUpTo S found s0 w) ∧ ∃ x4 x5, σ = [some (.ref m), some (.ref l), some (.ref kd), some (.int (i : Int)), x4, x5])
      ⟨k3, ⟨vs, hl3, hvl, hvx⟩, hk3, _, _, rfl⟩ (fun _ _ _ _ _ => trivial) ?_ ?_
    · rintro w x σ H5 H4 hw ⟨k4, ⟨ys, hy, hyl, hyx⟩, hk4, x4, x5, rfl⟩ ⟨rfl, rfl⟩
      have hw2 : w < M.ws.length := by omega
      have eg := mUpTo_get S found s0 es0 w
      have hyi : i < ys.length := by have := (List.getElem?_eq_some_iff.mp eg).1; omega
      have ul := mUpTo_len S found s0 w
      have tv := hyx i _ _ (List.getElem?_eq_getElem hyi) eg
      refine ⟨_, rfl, _, rfl, _, rfl, l, _, _, _, rfl, rfl, SqL.of hy, at_of rfl (List.getElem?_eq_getElem hyi), _, rfl, m, o, _, M, s0, w, by simp, hB.kp k4, tv, fit0, hw2, fun v' H6 k6 t6 => ?_⟩
      obtain ⟨b, rfl, hb⟩ := t6
      rw [← Snext] at hb
      have hk6 := hk4.keep fun kvs e => k6.get e
      have hy6 := k6.get hy
      obtain ⟨oo, dg, ho⟩ := hk6.get hb
      refine ⟨_, rfl, _, rfl, kd, oo, rfl, dg, _, rfl, ?_⟩
      rw [ho, mUpTo_succ]
      unfold meet
      by_cases mem : S.next s0 w ∈ mUpTo S found s0 w
      · rw [decide_eq_true mem, if_pos mem]
        exact iteF ⟨k4.trans k6, ⟨ys, hy6, hyl, fun j x y e1 e2 => (hyx j x y e1 e2).tk k6.tk⟩, hk6, _, _, rfl⟩
      · rw [decide_eq_false mem, if_neg mem]
        obtain ⟨kv, dp, hk7⟩ := hk6.put hb mem (size_lt (by omega)) (.bl true)
        have nkt : ∀ xs, H6 kd ≠ some (.tup xs) := fun xs e => by obtain ⟨kvs, e2, _⟩ := hk6; rw [e2] at e; cases e
        have nlk : l ≠ kd := fun e => by obtain ⟨kvs, e2, _⟩ := hk6; rw [e, e2] at hy6; cases hy6
        have t7 : Tk H6 (upd H6 kd (.dT kv)) := Tk.put nkt
        have hy7 : (upd H6 kd (.dT kv)) l = some (.lst ys) := by rw [upd_ne nlk]; exact hy6
        refine iteT ⟨_, rfl, _, rfl, kd, _, rfl, dp, ?_⟩
        refine ⟨_, rfl, .inl ⟨rfl, ys, SqL.of hy7⟩, _, rfl, l, ys, _, rfl, rfl, hy7, size_lt (by omega), ?_⟩
        refine ⟨((k4.trans k6).mut nkH).mut nlH, LR.push (fun t h => h.tk t) hyl hyx (k6.tk.trans t7) hy7 ⟨b, rfl, t7 _ _ hb⟩, hk7.keep fun kvs e => by rw [upd_ne (Ne.symm nlk)]; exact e, _, _, rfl⟩
    · rintro σ H4 ⟨k4, hlr, hk4, x4, x5, rfl⟩
      have ew : ((wsv.length : Nat) : Int).toNat = S.nw := by rw [Snw]; omega
      rw [ew, mUpTo_all] at hlr hk4
      exact ⟨_, rfl, _, _, rfl, rfl, _, _, k4, hlr, hk4, rfl⟩

abbrev s_book_of : Stmt := top 51
theorem sc_book_of : FnScope ["machine", "order", "notes", "numbers", "steps", "number", "work"] ["machine"] (defScope s_book_of) := ⟨rfl, rfl, rfl, by decide +kernel, rfl, by decide +kernel, by decide +kernel⟩
theorem ok_book_of {f : Addr} {fd : FuncData} (F : Fun K "book_of" "book_of" s_book_of f fd) (Tx : Txt mg) (G_met_notes : Gf P w K mg base "met_notes" ["machine"] 2 (sp_met_notes K COffice CMachine)) (G_moved : Gf P w K mg base "moved" ["machine", "notes", "work"] 1 (sp_moved K COffice CMachine)) (G_raw_book : Gf P w K mg base "raw_book" ["office", "telling", "steps"] 4 (sp_raw_book K)) : FnOk P w K mg base CX0 5 f fd ["machine"] (sp_book_of K COffice CMachine) := by
  refine F.ok sc_book_of (fun vs H Q E h => ?_) (fun cdv A outer s H vs Q E hr h => ?_)
  · obtain ⟨m, o, M, n, order, rfl, hB, met, k⟩ := h
    rfl
  · obtain ⟨m, o, M, n, order, rfl, hB, met, k⟩ := h
    have hu := hu_of hr
    have hu1 := hr.units0
    refine ⟨_, (pss_cons (ps_set (i := 1) sc_book_of.nd rfl (Or.inl rfl) (pe_g G_met_notes (hr.mono (by decide)) (by rfl) (pa_cons (pv 0) pa_nil)))
        (pss_cons (ps_set (i := 3) sc_book_of.nd rfl (Or.inr rfl) (pe_dcT (own := [("number", 5), ("notes", 2)]) (g := gTup K 2 (gCons (gName 5) (gCons (gName 2) gNil))) hu1 rfl sc_book_of.nd (kpi_enum (K := K) (by rfl) Tx.b_enumerate (pa_cons (pv 1) pa_nil)) (blkOk_by (own := [("number", 5), ("notes", 2)]) (N := ["machine", "order", "notes", "numbers", "steps", "number", "work"]) (sc := (defScope s_book_of)) (by decide +kernel)) (fun _ _ _ _ _ => (kpg_tup (K := K) rfl (pgs_cons (pg_name (i := 5) sc_book_of.nd rfl (Or.inl rfl)) (pgs_cons (pg_name (i := 2) sc_book_of.nd rfl (Or.inl rfl)) pgs_nil)))) (fun _ _ _ _ _ => (pv 2)) (fun _ _ _ _ _ => (pv 5))))
        (pss_cons (ps_set (i := 4) sc_book_of.nd rfl (Or.inl rfl) (pe_lst pa_nil))
        (pss_cons (ps_for PassesOwn.never rfl (kpi_list (K := K) (pv 1)) (pg_name (i := 2) sc_book_of.nd rfl (Or.inr rfl))
        (pss_one (ps_expr (kpe_bm (K := K) (pe_bm PySem.F.plainAttrs_list PySem.F.slot_list_append PySem.F.type_list_append mt_append (pv 4) (pa_cons (pe_lc (own := [("work", 6)]) (g := gName 6) (tt := tYes) rfl sc_book_of.nd (pi_range1 (by rfl) Tx.b_range (pa_cons (pe_callB (kcall_len (K := K)) (by rfl) Tx.b_len (by decide +kernel) (pa_cons (kpe_fld (K := K) (kpe_fld (K := K) (pv 0) rfl) rfl) pa_nil)) pa_nil)) (blkOk_by (own := [("work", 6)]) (N := ["machine", "order", "notes", "numbers", "steps", "number", "work"]) (sc := (defScope s_book_of)) (by decide +kernel)) (fun _ _ _ _ _ => (pg_name (i := 6) sc_book_of.nd rfl (Or.inl rfl))) (fun _ _ _ _ _ => pts_nil) (fun _ _ _ _ _ => (pe_dget hu (pv 3) (pe_g G_moved (hr.mono (by decide)) (by rfl) (pa_cons (pv 0) (pa_cons (pv 2) (pa_cons (pv 6) pa_nil)))) (fun _ _ => rfl)))) pa_nil))))))
        (pss_one (ps_ret (pe_g G_raw_book (hr.mono (by decide)) (by rfl) (pa_cons (kpe_fld (K := K) (pv 0) rfl) (pa_cons (pe_lc (own := [("notes", 2)]) (g := gName 2) (tt := tYes) rfl sc_book_of.nd (kpi_list (K := K) (pv 1)) (blkOk_by (own := [("notes", 2)]) (N := ["machine", "order", "notes", "numbers", "steps", "number", "work"]) (sc := (defScope s_book_of)) (by decide +kernel)) (fun _ _ _ _ _ => (pg_name (i := 2) sc_book_of.nd rfl (Or.inl rfl))) (fun _ _ _ _ _ => pts_nil) (fun _ _ _ _ _ => (pe_dget hu (kpe_fld (K := K) (pv 0) rfl) (pv 2) (fun _ _ => rfl)))) (pa_cons (pv 4) pa_nil)))))))))), ?_⟩
    have oo := met.ord
    have ok := hB.2.2
    have w10 := ok.off.w10
    have ol := oo.len
    refine ⟨_, rfl, m, o, M, n, order, rfl, hB, met, fun l H1 k1 nl hlt => ?_⟩
    obtain ⟨vs, hl, hvl, hvx⟩ := hlt
    -- the numbers
    refine ⟨_, rfl, l, vs, rfl, SqL.of hl, fun D hD => ?_⟩
    have nDH : H D = none := k1.free _ hD
    refine ⟨fun i c H' => c = order.length - i ∧ i ≤ order.length ∧ Kp [] H1 H' ∧ H' D = some (.dT (numK order i)), ⟨_, rfl, Nat.zero_le _, Kp.new hD, by rw [upd_same]; rfl⟩, ?_⟩
    rintro i c H2 ⟨rfl, hi, k2, hD2⟩
    by_cases hio : i < order.length
    · refine .inr ⟨(walk_enum (K := K) (a := l) (xs := vs)).goes i H2 (by omega) (SqL.of (k2.get hl)), fun H' => Kp [] H1 H' ∧ H' D = some (.dT (numK order (i + 1))), fun H' q => ⟨order.length - (i + 1), by omega, rfl, hio, q⟩, fun x H3 hx => ?_⟩
      obtain ⟨T, y1, y2, rfl, hT, rfl, e1, hy2⟩ := (walk_enum (K := K) (a := l) (xs := vs)).yields i H2 x H3 (by omega) (SqL.of (k2.get hl)) hx
      injection e1 with e1
      subst e1
      have eo : order[i]? = some order[i] := List.getElem?_eq_getElem hio
      have kT : Kp [] H2 (upd H2 T (.tup [.int (i : Int), y2])) := Kp.new hT
      obtain ⟨b, rfl, hb⟩ := (hvx i _ _ hy2 eo).tk (k2.trans kT).tk
      refine ⟨T, _, rfl, SqT.of upd_same, rfl, _, _, rfl, _, _, rfl, rfl, rfl, _, rfl, _, rfl, b, numK order i, ik (iz order[i]), rfl, by rw [kV_ik]; exact hb, kT.get hD2, ?_, ?_⟩
      · unfold numK
        rw [List.length_map, List.length_range]
        exact size_lt (by omega)
      · refine ⟨(k2.trans kT).mut hD, ?_⟩
        rw [upd_same, numK_succ, getD_of eo]
        have hk := numK_keys order i hi
        rw [put_new hk (fun h => ?_)]
        obtain ⟨j, hj, e⟩ := List.getElem_of_mem h
        rw [List.length_take] at hj
        rw [List.getElem_take] at e
        have h1 := nd_idx oo.nd (show j < order.length by omega)
        have h2 := nd_idx oo.nd hio
        rw [e, h2] at h1
        omega
    have hio' : i = order.length := by omega
    subst hio'
    refine .inl ⟨by have := (walk_enum (K := K) (a := l) (xs := vs)).stops H2 (SqL.of (k2.get hl)); rw [hvl] at this; exact this, ?_⟩
    have k12 := k1.trans k2
    -- the steps
    refine ⟨Nat.zero_le _, fun ls nls => ?_⟩
    have kls : Kp [] H2 (upd H2 ls (.lst [])) := Kp.new nls
    have nlsH : H ls = none := k12.free _ nls
    refine ⟨_, rfl, l, rfl, ⟨_, SqL.of ((k2.trans kls).get hl)⟩, ?_⟩
    refine for_it (walk_list (K := K) (a := l) (xs := vs)) (fun i σ H' => Kp [] H2 H' ∧ (∃ ys, H' ls = some (.lst ys) ∧ ys.length = i ∧ ∀ (j : Nat) y gs, ys[j]? = some y → (stepsOf M order)[j]? = some gs → ∃ q, y = .ref q ∧ H' q = some (.lst (vz gs)) ∧ q ≠ ls) ∧ ∃ x, σ = [some (.ref m), some (.ref l), x, some (.ref D), some (.ref ls), none, none]) ⟨kls, ⟨[], upd_same, rfl, fun j y gs e => by simp at e⟩, _, rfl⟩ (fun i σ H' hi q => SqL.of ((k2.trans q.1).get hl)) ?_ ?_
    · rintro i x σ H4 H3 hi ⟨k3, ⟨ys, hy, hyl, hyx⟩, z, rfl⟩ ⟨rfl, hx⟩
      have hio : i < order.length := by omega
      have eo : order[i]? = some order[i] := List.getElem?_eq_getElem hio
      have mem := List.getElem_mem hio
      have tx := (hvx i x _ hx eo).tk (k2.trans k3).tk
      have est := steps_at (M := M) eo
      have k13 := k12.trans k3
      obtain ⟨⟨fm, dxm, fsm, m1, m2, m3, hmm, g1, _⟩, ⟨fo, dxo, fso, vo, hoo, ho1, ho2, aw, wsv, rfl, haw, hwl, hwx⟩, _⟩ := hB.kp k13
      refine ⟨_, rfl, .inl ⟨rfl, ys, SqL.of hy⟩, ?_⟩
      refine t_lc (walk_range (lo := 0) (n := ((wsv.length : Nat) : Int).toNat)) (ch := []) (H1 := H3) (fun R q => ⟨_, rfl, m, _, dxm, fsm, _, rfl, hmm, fm.cl, fm.office, g1, o, _, dxo, fso, _, rfl, hoo, fo.cl, fo.works, ho2, aw, _, rfl, .inr (SqT.of haw), _, rfl, by omega, by omega, q⟩)
        (fun _ w y _ => y = .int (order.idxOf (M.next order[i] w) : Nat)) no_ch (by omega) (fun _ _ => trivial) yk_fn (fun _ _ _ _ _ _ e => e) ?_ ?_
      · rintro Dn w x2 H5 H4 Q' hDn hw k4 ⟨rfl, rfl⟩ q
        have hw2 : w < M.ws.length := by omega
        have kk := k13.trans k4
        refine ⟨rfl, _, rfl, _, rfl, _, rfl, _, rfl, m, o, x, M, order[i], w, by simp, hB.kp kk, tx.tk k4.tk, oo.fit _ mem, hw2, fun v' H6 k6 t6 => ?_⟩
        obtain ⟨b, rfl, hb⟩ := t6
        have hD6 : H6 D = some (.dT (numK order order.length)) := ((k3.trans k4).trans k6).get hD2
        have hc := oo.closed _ mem w hw2
        refine ⟨D, _, rfl, ?_, q _ _ k6 rfl⟩
        rw [← numK_val oo.nd hc]
        exact DGet.t hD6 (by rw [kV_ik]; exact hb)
      · intro Dn zs H4 hDn k4 hz hzl hzx
        have hy4 := k4.get hy
        have nDl : Dn ≠ ls := fun e => by rw [e, hy] at hDn; cases hDn
        have ez : zs = vz ((List.range M.ws.length).map fun w => order.idxOf (M.next order[i] w)) := by
          refine vz_eq (by rw [List.length_map, List.length_range]; omega) fun w v g e1 e2 => ?_
          have hw2 : w < M.ws.length := by have := (List.getElem?_eq_some_iff.mp e1).1; omega
          rw [List.getElem?_map, List.getElem?_range hw2] at e2
          injection e2 with e2
          dsimp only at e2
          rw [hzx w v e1, e2]
        subst ez
        refine ⟨ls, ys, _, rfl, rfl, hy4, size_lt (by omega), (k3.trans k4).mut nls, ⟨_, upd_same, by rw [List.length_append, hyl]; rfl, fun j y gs e1 e2 => ?_⟩, _, rfl⟩
        by_cases hj : j < ys.length
        · rw [List.getElem?_append_left hj] at e1
          obtain ⟨q, rfl, hq, nq⟩ := hyx j y gs e1 e2
          exact ⟨q, rfl, by rw [upd_ne nq]; exact k4.get hq, nq⟩
        · rw [List.getElem?_append_right (by omega)] at e1
          have h0 : j - ys.length = 0 := by
            have := (List.getElem?_eq_some_iff.mp e1).1
            simp at this
            omega
          rw [h0] at e1
          injection e1 with e1
          subst e1
          have ej : j = i := by omega
          subst ej
          rw [est] at e2
          injection e2 with e2
          subst e2
          exact ⟨Dn, rfl, by rw [upd_ne nDl]; exact hz, nDl⟩
    · rintro σ H3 ⟨k3, ⟨ys, hy, hyl, hyx⟩, z, rfl⟩
      have k13 := k12.trans k3
      have hl3 := (k2.trans k3).get hl
      obtain ⟨⟨fm, dxm, fsm, m1, m2, m3, hmm, g1, g2, g3, g4, g5, g6, g7⟩, _, _⟩ := hB.kp k13
      refine ⟨_, rfl, m, _, dxm, fsm, _, rfl, hmm, fm.cl, fm.office, g1, ?_⟩
      refine t_lc (walk_list (K := K) (a := l) (xs := vs)) (ch := []) (H1 := H3) (fun R q => ⟨_, rfl, l, rfl, ⟨_, SqL.of hl3⟩, q⟩) (fun _ i y _ => ∀ t, (telOf M order)[i]? = some t → y = .int (t : Nat)) no_ch (by omega) (fun H4 k4 => SqL.of (k4.get hl3)) yk_at (fun _ _ _ _ _ _ e => e) ?_ ?_
      · rintro Dn i x H5 H4 Q' hDn hi k4 ⟨rfl, hx⟩ q
        have hio : i < order.length := by omega
        have eo : order[i]? = some order[i] := List.getElem?_eq_getElem hio
        obtain ⟨b, rfl, hb⟩ := (hvx i x _ hx eo).tk ((k2.trans k3).trans k4).tk
        obtain ⟨pt, y, ept, dg, hy⟩ := (g7.kp k4 NoD.nil).get (mem_allN.mpr (oo.fit _ (List.getElem_mem hio))) hb
        subst hy
        refine ⟨rfl, _, rfl, m, _, dxm, fsm, _, rfl, k4.get hmm, fm.cl, fm.tells, g6, _, rfl, pt, _, ept, dg, q _ _ Kp.refl fun t e => ?_⟩
        rw [tel_at eo] at e
        injection e with e
        rw [e]
      · intro Dn zs H4 hDn k4 hz hzl hzx
        have ez : zs = vz (telOf M order) := vz_eq (by rw [tel_len]; omega) fun i v t e1 e2 => hzx i v e1 t e2
        subst ez
        refine ⟨_, rfl, o, Dn, ls, telOf M order, stepsOf M order, ys, rfl, hz, k4.get hy, by rw [steps_len]; omega, by rw [steps_len]; exact ol, fun i x gs e1 e2 => ?_, fun p H5 k5 hb => k p H5 ((k13.trans k4).trans k5) hb⟩
        obtain ⟨q, rfl, hq, _⟩ := hyx i x gs e1 e2
        exact ⟨q, rfl, k4.get hq⟩

abbrev s_wrong_row : Stmt := top 52
theorem sc_wrong_row : FnScope ["book", "machine"] ["book", "machine"] (defScope s_wrong_row) := ⟨rfl, rfl, rfl, by decide +kernel, rfl, by decide +kernel, by decide +kernel⟩
theorem ok_wrong_row {f : Addr} {fd : FuncData} (F : Fun K "wrong_row" "wrong_row" s_wrong_row f fd) (Tx : Txt mg) (G_book_of : Gf P w K mg base "book_of" ["machine"] 5 (sp_book_of K COffice CMachine)) (G_check_match : Gf P w K mg base "check_match" ["one", "other"] 3 (sp_check_match K COffice CMachine)) (G_row_that_parts : Gf P w K mg base "row_that_parts" ["one", "other"] 1 (sp_row_that_parts K)) : FnOk P w K mg base CX0 6 f fd ["book", "machine"] (sp_wrong_row K COffice CMachine) := by
  refine F.ok sc_wrong_row (fun vs H Q E h => ?_) (fun cdv A outer s H vs Q E hr h => ?_)
  · obtain ⟨p, m, o, tel, steps, M, res, rfl, as, k⟩ := h
    rfl
  · obtain ⟨p, m, o, tel, steps, M, res, rfl, as, k⟩ := h
    refine ⟨_, (pss_cons (ps_expr (pe_g G_check_match (hr.mono (by decide)) (by rfl) (pa_cons (pv 0) (pa_cons (pv 1) pa_nil))))
        (pss_one (ps_ret (pe_g G_row_that_parts (hr.mono (by decide)) (by rfl) (pa_cons (pv 0) (pa_cons (pe_g G_book_of (hr.mono (by decide)) (by rfl) (pa_cons (pv 1) pa_nil)) pa_nil)))))), ?_⟩
    obtain ⟨bk, hB, ok, n1, n2, order, met, ok2, bfs⟩ := as
    refine ⟨_, rfl, _, rfl, p, m, o, _, _, tel, steps, M, rfl, bk, hB.1, hB.2.1, fun H1 k1 => ?_⟩
    have w10 := hB.2.2.off.w10
    refine ⟨_, rfl, _, rfl, m, o, M, n1, order, rfl, hB.kp k1, met, fun q H2 k2 hq => ?_⟩
    exact ⟨p, q, o, o, M.ws.length, n2, tel, _, steps, _, res, rfl, bk.kp (k1.trans k2) (fun z => nomatch z), hq, w10, ok, ok2, bfs, fun v H3 k3 hv => k v H3 ((k1.trans k2).trans k3) hv⟩

abbrev s_is_for : Stmt := top 53
theorem sc_is_for : FnScope ["book", "thing"] ["book", "thing"] (defScope s_is_for) := ⟨rfl, rfl, rfl, by decide +kernel, rfl, by decide +kernel, by decide +kernel⟩
theorem ok_is_for {f : Addr} {fd : FuncData} (F : Fun K "is_for" "is_for" s_is_for f fd) (Tx : Txt mg) (T_Machine : ClsF K mg "Machine" CMachine) (G_book_of : Gf P w K mg base "book_of" ["machine"] 5 (sp_book_of K COffice CMachine)) (G_row_that_parts : Gf P w K mg base "row_that_parts" ["one", "other"] 1 (sp_row_that_parts K)) (F_Office_eq : FnOk P w K mg base CX0 1 fe fde ["self", "other"] (sp_Office_eq K COffice)) (n_Office : NeCls K COffice fe) (b_Office_eq : Binds K fde ["self", "other"] []) : FnOk P w K mg base CX0 6 f fd ["book", "thing"] (sp_is_for K COffice CMachine) := by
  refine F.ok sc_is_for (fun vs H Q E h => ?_) (fun cdv A outer s H vs Q E hr h => ?_)
  · obtain ⟨p, m, o, tel, steps, M, res, rfl, as, k⟩ := h
    rfl
  · obtain ⟨p, m, o, tel, steps, M, res, rfl, as, k⟩ := h
    have hr2 : Room 2 _ := hr.mono (by decide)
    refine ⟨_, (pss_cons (ps_if (PW.pt (pw_or (pt_not (pt_val (pe_callB (kcall_isi (K := K)) (by rfl) Tx.b_isinstance (by decide +kernel) (pa_cons (pv 1) (pa_cons (pe_cls (by rfl) T_Machine.mg) pa_nil))))) (pw_or1 (pt_cmpR (op_neO F_Office_eq n_Office b_Office_eq hr2) (kpe_fld (K := K) (pv 1) rfl) (kpe_fld (K := K) (pv 0) rfl) (nomark _))))) (pss_one (ps_ret pe_bl)) pss_nil)
        (pss_one (ps_ret (pe_cmpR op_isN (pe_g G_row_that_parts (hr.mono (by decide)) (by rfl) (pa_cons (pv 0) (pa_cons (pe_g G_book_of (hr.mono (by decide)) (by rfl) (pa_cons (pv 1) pa_nil)) pa_nil))) pe_non (nomark _))))), ?_⟩
    obtain ⟨bk, hB, ok, n1, n2, order, met, ok2, bfs⟩ := as
    have bk' := bk
    have hB' := hB
    obtain ⟨hm, ho, okM⟩ := hB
    obtain ⟨fm, dxm, fsm, m1, m2, m3, hmm, g1, g2, g3, g4, g5, g6, g7⟩ := hm
    obtain ⟨C, dx, fs, v1, v2, fb, hp, h1, h2, h3, h4, h5⟩ := bk
    have ho' := ho
    obtain ⟨fo, dxo, fso, vo, hoo, ho1, ho2, ho3⟩ := ho
    refine ⟨_, rfl, _, _, _, _, true, rfl, .own _, T_Machine.ty hmm, kit_self, true, rfl, iteF ?_⟩
    refine ⟨_, rfl, m, _, dxm, fsm, _, rfl, hmm, fm.cl, fm.office, g1, _, rfl, p, C, dx, fs, _, rfl, hp, fb.cl, fb.office, h1, ?_⟩
    refine ⟨o, o, dxo, dxo, fso, fso, rfl, rfl, hoo, hoo, o, o, M.d, M.ws, rfl, ho', ho', fun H1 k1 => ⟨true, rfl, false, rfl, iteF ?_⟩⟩
    dsimp only [tNext, tSeq, tRet]
    have w10 := okM.off.w10
    refine ⟨_, rfl, _, rfl, m, o, M, n1, order, rfl, hB'.kp k1, met, fun q H2 k2 hq => ?_⟩
    refine ⟨p, q, o, o, M.ws.length, n2, tel, _, steps, _, res, rfl, bk'.kp (k1.trans k2) (fun z => nomatch z), hq, w10, ok, ok2, bfs, fun v H3 k3 hv => ⟨rfl, ?_⟩⟩
    refine qv (k H3 ((k1.trans k2).trans k3)) (congrArg V.bl ?_)
    cases res with
    | none => cases hv; rfl
    | some row =>
      obtain ⟨a, rfl, _⟩ := hv
      rfl

abbrev s_law_dice : Stmt := top 55
theorem sc_law_dice : FnScope ["_law_script", "_law_cell"] ["_law_script"] (defScope s_law_dice) := ⟨rfl, rfl, rfl, by decide +kernel, rfl, by decide +kernel, by decide +kernel⟩
theorem ok_law_dice {f : Addr} {fd : FuncData} (F : Fun K "_law_dice" "_law_dice" s_law_dice f fd) (Tx : Txt mg)  : FnOk P w K mg base CX0 1 f fd ["_law_script"] (sp_law_dice K) := by
  refine F.ok sc_law_dice (fun vs H Q E h => ?_) (fun cdv A outer s H vs Q E hr h => ?_)
  · obtain ⟨a, ns, rfl, ha, h63, k⟩ := h
    rfl
  · obtain ⟨a, ns, rfl, ha, h63, k⟩ := h
    refine ⟨_, (pss_one (ps_ret (pe_lst (pa_cons (pe_lc (own := [("_law_cell", 1)]) (g := gName 1) (tt := tYes) rfl sc_law_dice.nd (kpi_list (K := K) (pe_slice (ksl_list (K := K)) (pv 0) po_none (po_some pe_int))) (blkOk_by (own := [("_law_cell", 1)]) (N := ["_law_script", "_law_cell"]) (sc := (defScope s_law_dice)) (by decide +kernel)) (fun _ _ _ _ _ => (pg_name (i := 1) sc_law_dice.nd rfl (Or.inl rfl))) (fun _ _ _ _ _ => pts_nil) (fun _ _ _ _ _ => (pe_callB call_abs (by rfl) Tx.b_abs (by decide +kernel) (pa_cons (pe_callTy call_int1 (by rfl) Tx.b_int (by decide +kernel) (pa_cons (pv 1) pa_nil)) pa_nil)))) (pa_cons pe_int (pa_cons pe_int (pa_cons pe_int (pa_cons pe_int pa_nil)))))))), ?_⟩
    have ecut : cutV (ns.map V.int) none (some 63) = (((ns.drop (HT.sIx (ns.map V.int).length 0 none)).take (HT.sIx (ns.map V.int).length (ns.map V.int).length (some 63) - HT.sIx (ns.map V.int).length 0 none))).map V.int := by
      unfold cutV
      rw [List.map_take, List.map_drop]
    have lcut := cutV_length (ns.map V.int) none (some 63)
    rw [ecut] at lcut
    generalize ((ns.drop (HT.sIx (ns.map V.int).length 0 none)).take (HT.sIx (ns.map V.int).length (ns.map V.int).length (some 63) - HT.sIx (ns.map V.int).length 0 none)) = ms at ecut lcut
    rw [List.length_map, List.length_map] at lcut
    refine r_lst1 ?_
    refine t_lcC (ι := Addr × Hp) (fun x => Itl K x.1) (fun x => x.2) (fun x => Kp [] H x.2 ∧ x.2 x.1 = some (.lst (ms.map V.int))) (fun R q => ⟨_, rfl, _, rfl, a, _, rfl, ha, fun p hp => ⟨p, rfl, ⟨_, SqL.of upd_same⟩, q (p, _) ⟨Kp.new hp, by rw [ecut]; exact upd_same⟩⟩⟩) ?_
    rintro ⟨p, H1⟩ ⟨k1, hp⟩
    dsimp only at k1 hp
    refine t_lc (walk_list (K := K) (a := p) (xs := ms.map V.int)) (ch := []) (H1 := H1) (fun R q => q) (fun _ _ y _ => ∃ z : Int, y = .int z ∧ 0 ≤ z) no_ch (by rw [List.length_map]; omega) (fun H3 k3 => SqL.of (k3.get hp)) yk_at (fun _ _ _ _ _ _ e => e) ?_ ?_
    · rintro D i x H4 H3 Q' hD hi k3 ⟨rfl, hx1⟩ q
      rw [List.getElem?_map] at hx1
      cases e : ms[i]? with
      | none => rw [e] at hx1; cases hx1
      | some z =>
        rw [e] at hx1
        injection hx1 with hx1
        subst hx1
        refine ⟨rfl, _, rfl, .inl ⟨z, rfl, z, rfl, q _ _ Kp.refl ⟨_, rfl, ?_⟩⟩⟩
        split <;> omega
    · intro D ys H3 hD k3 hy hl hR
      obtain ⟨cells, rfl, hc⟩ := ints_of hR
      refine ⟨by show (5 : Nat) ≤ sizeLine; decide, fun d hd => ?_⟩
      have nc : H D = none := k1.free D hD
      have nd : H d = none := k1.free d (k3.free d hd)
      have ne : D ≠ d := ne_of2 hy hd
      rw [List.length_map, List.length_map] at hl
      exact k d D _ ((k1.trans k3).new' hd) nd nc ⟨0, 0, 1, 0, cells, upd_same, by rw [upd_ne ne]; exact hy, ne, hc, by omega, by decide, by omega, by decide, by decide, by decide, by decide⟩

abbrev s_law_draw : Stmt := top 56
theorem sc_law_draw : FnScope ["_law_dice_here", "_law_sides", "_law_cell", "_law_digit", "_law_mixed"] ["_law_dice_here", "_law_sides"] (defScope s_law_draw) := ⟨rfl, rfl, rfl, by decide +kernel, rfl, by decide +kernel, by decide +kernel⟩
theorem ok_law_draw {f : Addr} {fd : FuncData} (F : Fun K "_law_draw" "_law_draw" s_law_draw f fd) (Tx : Txt mg)  : FnOk P w K mg base CX0 1 f fd ["_law_dice_here", "_law_sides"] sp_law_draw := by
  refine F.ok sc_law_draw (fun vs H Q E h => ?_) (fun cdv A outer s H vs Q E hr h => ?_)
  · obtain ⟨d, c, s0, rfl, hdi, s1, s2, k⟩ := h
    rfl
  · obtain ⟨d, c, s0, rfl, hdi, s1, s2, k⟩ := h
    refine ⟨_, (Evl.pss_cut (ps_if (PW.pt (pw_and (pt_cmpR op_eq (pe_ix (kix_list (K := K)) (pv 0) pe_int (fun _ _ => rfl)) pe_int (nomark _)) (pw_and1 (pt_cmpR op_lt (pe_ix (kix_list (K := K)) (pv 0) pe_int (fun _ _ => rfl)) (pe_callB (kcall_len (K := K)) (by rfl) Tx.b_len (by decide +kernel) (pa_cons (pe_ix (kix_list (K := K)) (pv 0) pe_int (fun _ _ => rfl)) pa_nil)) (nomark _))))) (pss_cons (ps_set (i := 2) sc_law_draw.nd rfl (Or.inl rfl) (pe_ix (kix_list (K := K)) (pe_ix (kix_list (K := K)) (pv 0) pe_int (fun _ _ => rfl)) (pe_ix (kix_list (K := K)) (pv 0) pe_int (fun _ _ => rfl)) (fun _ _ => rfl)))
        (pss_cons (ps_asg (pe_op op_add (pe_ix (kix_list (K := K)) (pv 0) pe_int (fun _ _ => rfl)) pe_int) (pg_sub (pv 0) pe_int set_list))
        (pss_one (ps_if (pt_cmpR op_ge (pv 2) (pe_op op_pow pe_int pe_int) (nomark _)) (pss_one (ps_asg (pv 2) (pg_sub (pv 0) pe_int set_list))) (pss_one (ps_asg (pe_op op_mod (pe_callTy call_int1 (by rfl) Tx.b_int (by decide +kernel) (pa_cons (pe_op op_add (pe_op op_add (pe_op op_mul (pe_ix (kix_list (K := K)) (pv 0) pe_int (fun _ _ => rfl)) pe_int) (pe_op op_mul (pv 2) pe_int)) (pe_ix (kix_list (K := K)) (pv 0) pe_int (fun _ _ => rfl))) pa_nil)) pe_int) (pg_sub (pv 0) pe_int set_list))))))) pss_nil)
        (pss_cons (ps_if (pt_cmpR op_gt (pe_ix (kix_list (K := K)) (pv 0) pe_int (fun _ _ => rfl)) pe_int (nomark _)) (pss_cons (ps_set (i := 3) sc_law_draw.nd rfl (Or.inl rfl) (pe_op op_modN (pe_callTy call_int1 (by rfl) Tx.b_int (by decide +kernel) (pa_cons (pe_ix (kix_list (K := K)) (pv 0) pe_int (fun _ _ => rfl)) pa_nil)) (pv 1)))
        (pss_cons (ps_asg (pe_op op_fdivN (pe_callTy call_int1 (by rfl) Tx.b_int (by decide +kernel) (pa_cons (pe_ix (kix_list (K := K)) (pv 0) pe_int (fun _ _ => rfl)) pa_nil)) (pv 1)) (pg_sub (pv 0) pe_int set_list))
        (pss_one (ps_ret (pv 3))))) pss_nil)
        (pss_cons (ps_asg (pe_op op_add (pe_ix (kix_list (K := K)) (pv 0) pe_int (fun _ _ => rfl)) pe_int) (pg_sub (pv 0) pe_int set_list))
        (pss_cons (ps_asg (pe_op op_mod (pe_callTy call_int1 (by rfl) Tx.b_int (by decide +kernel) (pa_cons (pe_op op_add (pe_op op_add (pe_op op_mul (pe_ix (kix_list (K := K)) (pv 0) pe_int (fun _ _ => rfl)) pe_int) (pe_op op_mul (pe_ix (kix_list (K := K)) (pv 0) pe_int (fun _ _ => rfl)) pe_int)) pe_int) pa_nil)) pe_int) (pg_sub (pv 0) pe_int set_list))
        (pss_cons (ps_set (i := 4) sc_law_draw.nd rfl (Or.inl rfl) (pe_op op_mod (pe_callTy call_int1 (by rfl) Tx.b_int (by decide +kernel) (pa_cons (pe_op op_mul (pe_ix (kix_list (K := K)) (pv 0) pe_int (fun _ _ => rfl)) (pe_op op_add (pe_op op_fdiv (pe_ix (kix_list (K := K)) (pv 0) pe_int (fun _ _ => rfl)) pe_int) pe_int)) pa_nil)) pe_int))
        (pss_cons (ps_set (i := 4) sc_law_draw.nd rfl (Or.inl rfl) (pe_op op_mod (pe_callTy call_int1 (by rfl) Tx.b_int (by decide +kernel) (pa_cons (pe_op op_mul (pv 4) (pe_op op_add (pe_op op_fdiv (pv 4) pe_int) pe_int)) pa_nil)) pe_int))
        (pss_one (ps_ret (pe_op op_modN (pe_callTy call_int1 (by rfl) Tx.b_int (by decide +kernel) (pa_cons (pe_op op_fdiv (pv 4) pe_int) pa_nil)) (pv 1)))))))))), ?_⟩
    obtain ⟨i, kk, p, j, cells, hd, hc, hcd, hz, h63, i0, il, k0, p0, pm, j0⟩ := hdi
    have kput : ∀ {H1 : Hp} (xs ys : List V), Kp [d] H H1 → H1 d = some (.lst xs) → Kp [d] H (upd H1 d (.lst ys)) := fun xs ys k1 h => k1.trans (Kp.refl.put List.mem_cons_self fun zs e => by rw [h] at e; cases e)
    refine ⟨fun σ H' => ∃ x, σ = [some (.ref d), some (.int (s0 : Int)), x, none, none] ∧ Kp [d] H H' ∧ DiceAt H' d c, ?_, ?_⟩
    · refine ⟨_, rfl, d, _, _, _, rfl, rfl, SqL.of hd, at_of (j := 2) rfl rfl, rfl, _, rfl, ?_⟩
      by_cases hk : kk = 0
      · rw [show decide (V.int kk = V.int 0) = true from by simp [hk]]
        refine iteT ⟨_, rfl, d, _, _, _, rfl, rfl, SqL.of hd, at_of (j := 1) rfl rfl, _, rfl, d, _, _, _, rfl, rfl, SqL.of hd, at_of (j := 0) rfl rfl, c, _, rfl, .inl (SqL.of hc), _, _, rfl, rfl, _, rfl, ?_⟩
        by_cases hi : i < ((cells.map V.int).length : Nat)
        · rw [decide_eq_true hi]
          rw [List.length_map] at hi
          have hlt : i.toNat < cells.length := by omega
          have hcell : (cells.map V.int)[i.toNat]? = some (.int cells[i.toNat]) := by rw [List.getElem?_map, List.getElem?_eq_getElem hlt]; rfl
          have hz0 := hz _ (List.getElem_mem hlt)
          refine iteT ⟨_, rfl, d, _, _, _, rfl, rfl, SqL.of hd, at_of (j := 0) rfl rfl, _, rfl, d, _, _, _, rfl, rfl, SqL.of hd, at_of (j := 1) rfl rfl, c, _, _, _, rfl, rfl, SqL.of hc, at_of (j := i.toNat) (by omega) hcell, ?_⟩
          refine ⟨_, rfl, d, _, _, _, rfl, rfl, SqL.of hd, at_of (j := 1) rfl rfl, _, _, rfl, rfl, _, rfl, d, _, _, 1, rfl, rfl, hd, rfl, ?_⟩
          have hc1 : (upd H d (.lst [.ref c, .int (i + 1), .int kk, .int p, .int j])) c = some (.lst (cells.map V.int)) := by rw [upd_ne hcd]; exact hc
          have k1 : Kp [d] H (upd H d (.lst [.ref c, .int (i + 1), .int kk, .int p, .int j])) := kput _ _ Kp.refl hd
          refine ⟨_, rfl, _, _, rfl, rfl, ⟨by decide, by decide, by decide⟩, _, _, rfl, rfl, _, rfl, ?_⟩
          refine ite2 ?_ ?_
          · refine ⟨_, rfl, _, rfl, d, _, _, 2, rfl, rfl, upd_same, rfl, _, rfl, kput _ _ k1 upd_same, ?_⟩
            exact ⟨i + 1, _, p, j, cells, upd_same, by rw [upd_ne hcd]; exact hc1, hcd, hz, h63, by omega, by omega, hz0, p0, pm, j0⟩
          · refine ⟨_, rfl, d, _, _, _, rfl, rfl, SqL.of upd_same, at_of (j := 3) rfl rfl, _, _, rfl, rfl, .inr ⟨by decide, by decide⟩, _, rfl, _, _, rfl, rfl, .inr ⟨by decide, by decide⟩, _, _, rfl, rfl, _, rfl, d, _, _, _, rfl, rfl, SqL.of upd_same, at_of (j := 1) rfl rfl, _, _, rfl, rfl, .inl ⟨_, rfl, _, _, rfl, rfl, (by show (0 : Int) < _; decide), _, rfl, d, _, _, 3, rfl, rfl, upd_same, rfl, _, rfl, kput _ _ k1 upd_same, ?_⟩⟩
            exact ⟨i + 1, _, _, j, cells, upd_same, by rw [upd_ne hcd]; exact hc1, hcd, hz, h63, by omega, by omega, k0, Int.emod_nonneg _ (by decide), Int.emod_lt_of_pos _ (by decide), j0⟩
        · rw [decide_eq_false hi]
          exact iteF ⟨none, rfl, Kp.refl, i, kk, p, j, cells, hd, hc, hcd, hz, h63, i0, il, k0, p0, pm, j0⟩
      · rw [show decide (V.int kk = V.int 0) = false from by simp [hk]]
        exact iteF (iteF ⟨none, rfl, Kp.refl, i, kk, p, j, cells, hd, hc, hcd, hz, h63, i0, il, k0, p0, pm, j0⟩)
    · rintro σ H1 ⟨x, rfl, k1, i, kk, p, j, cells, hd, hc, hcd, hz, h63, i0, il, k0, p0, pm, j0⟩
      refine ⟨_, rfl, d, _, _, _, rfl, rfl, SqL.of hd, at_of (j := 2) rfl rfl, _, _, rfl, rfl, _, rfl, ?_⟩
      have sn : (s0 : Int) ≠ 0 := by omega
      refine ite2 ?_ ?_
      · refine ⟨_, rfl, d, _, _, _, rfl, rfl, SqL.of hd, at_of (j := 2) rfl rfl, .inl ⟨_, rfl, _, rfl, _, _, rfl, rfl, sn, ?_⟩⟩
        refine ⟨_, rfl, d, _, _, _, rfl, rfl, SqL.of hd, at_of (j := 2) rfl rfl, .inl ⟨_, rfl, _, rfl, _, _, rfl, rfl, ⟨sn, by omega⟩, _, rfl, d, _, _, 2, rfl, rfl, hd, rfl, ?_⟩⟩
        have e0 := Int.fmod_nonneg_of_pos kk (b := (s0 : Int)) (by omega)
        have e1 := Int.fmod_lt_of_pos kk (b := (s0 : Int)) (by omega)
        refine ⟨_, rfl, qv (k (kk.fmod (s0 : Int)).toNat _ (by omega) (kput _ _ k1 hd) ?_) (congrArg V.int (Int.toNat_of_nonneg e0).symm)⟩
        exact ⟨i, _, p, j, cells, upd_same, by rw [upd_ne hcd]; exact hc, hcd, hz, h63, i0, il, Int.fdiv_nonneg k0 (by omega), p0, pm, j0⟩
      · dsimp only [tNext, tSeq]
        refine ⟨_, rfl, d, _, _, _, rfl, rfl, SqL.of hd, at_of (j := 4) rfl rfl, _, _, rfl, rfl, _, rfl, d, _, _, 4, rfl, rfl, hd, rfl, ?_⟩
        have hc1 : (upd H1 d (.lst [.ref c, .int i, .int kk, .int p, .int (j + 1)])) c = some (.lst (cells.map V.int)) := by rw [upd_ne hcd]; exact hc
        have k2 : Kp [d] H (upd H1 d (.lst [.ref c, .int i, .int kk, .int p, .int (j + 1)])) := kput _ _ k1 hd
        refine ⟨_, rfl, d, _, _, _, rfl, rfl, SqL.of upd_same, at_of (j := 3) rfl rfl, _, _, rfl, rfl, .inr ⟨by decide, by decide⟩, _, rfl, d, _, _, _, rfl, rfl, SqL.of upd_same, at_of (j := 4) rfl rfl, _, _, rfl, rfl, .inr ⟨by decide, by decide⟩, _, _, rfl, rfl, _, _, rfl, rfl, .inl ⟨_, rfl, _, _, rfl, rfl, (by show (0 : Int) < _; decide), _, rfl, d, _, _, 3, rfl, rfl, upd_same, rfl, ?_⟩⟩
        have b0 : 0 ≤ (p * 48271 + (j + 1) * 7919 + 1) % 2147483647 := Int.emod_nonneg _ (by decide)
        have b1 : (p * 48271 + (j + 1) * 7919 + 1) % 2147483647 < 2147483647 := Int.emod_lt_of_pos _ (by decide)
        have k3 := kput _ [.ref c, .int i, .int kk, .int ((p * 48271 + (j + 1) * 7919 + 1) % 2147483647), .int (j + 1)] k2 upd_same
        have hd3 : (upd (upd H1 d (.lst [.ref c, .int i, .int kk, .int p, .int (j + 1)])) d (.lst [.ref c, .int i, .int kk, .int ((p * 48271 + (j + 1) * 7919 + 1) % 2147483647), .int (j + 1)])) d = some (.lst [.ref c, .int i, .int kk, .int ((p * 48271 + (j + 1) * 7919 + 1) % 2147483647), .int (j + 1)]) := upd_same
        have hc3 : (upd (upd H1 d (.lst [.ref c, .int i, .int kk, .int p, .int (j + 1)])) d (.lst [.ref c, .int i, .int kk, .int ((p * 48271 + (j + 1) * 7919 + 1) % 2147483647), .int (j + 1)])) c = some (.lst (cells.map V.int)) := by rw [upd_ne hcd]; exact hc1
        refine ⟨_, rfl, d, _, _, _, rfl, rfl, SqL.of hd3, at_of (j := 3) rfl rfl, _, rfl, d, _, _, _, rfl, rfl, SqL.of hd3, at_of (j := 3) rfl rfl, _, _, rfl, rfl, ⟨by decide, by decide⟩, _, _, rfl, rfl, _, _, rfl, rfl, .inl ⟨by omega, by omega⟩, .inl ⟨_, rfl, _, _, rfl, rfl, (by show (0 : Int) < _; decide), ?_⟩⟩
        dsimp only
        generalize hm : ((p * 48271 + (j + 1) * 7919 + 1) % 2147483647 * ((p * 48271 + (j + 1) * 7919 + 1) % 2147483647 / 1009 + 69623)) % 2147483399 = m
        have m0 : 0 ≤ m := by rw [← hm]; exact Int.emod_nonneg _ (by decide)
        have m1 : m < 2147483399 := by rw [← hm]; exact Int.emod_lt_of_pos _ (by decide)
        refine ⟨_, rfl, _, rfl, _, _, rfl, rfl, ⟨by decide, by decide⟩, _, _, rfl, rfl, _, _, rfl, rfl, .inl ⟨by omega, by omega⟩, .inl ⟨_, rfl, _, _, rfl, rfl, (by show (0 : Int) < _; decide), ?_⟩⟩
        dsimp only
        generalize hn : (m * (m / 2003 + 40693)) % 2147483563 = n
        have n0 : 0 ≤ n := by rw [← hn]; exact Int.emod_nonneg _ (by decide)
        refine ⟨_, rfl, _, _, rfl, rfl, ⟨by decide, by decide⟩, .inl ⟨_, rfl, _, rfl, _, _, rfl, rfl, sn, ?_⟩⟩
        have e0 := Int.fmod_nonneg_of_pos (n / 16) (b := (s0 : Int)) (by omega)
        have e1 := Int.fmod_lt_of_pos (n / 16) (b := (s0 : Int)) (by omega)
        refine qv (k ((n / 16).fmod (s0 : Int)).toNat _ (by omega) k3 ?_) (congrArg V.int (Int.toNat_of_nonneg e0).symm)
        exact ⟨i, kk, _, j + 1, cells, hd3, hc3, hcd, hz, h63, i0, il, k0, b0, b1, by omega⟩

abbrev s_law_parts : Stmt := top 57
theorem sc_law_parts : FnScope ["_law_dice_here", "_law_most", "_law_desks", "_law_kind", "_law_lots", "_law_turn", "_law_lot", "_law_desk"] ["_law_dice_here", "_law_most"] (defScope s_law_parts) := ⟨rfl, rfl, rfl, by decide +kernel, rfl, by decide +kernel, by decide +kernel⟩
theorem ok_law_parts {f : Addr} {fd : FuncData} (F : Fun K "_law_parts" "_law_parts" s_law_parts f fd) (Tx : Txt mg) (G_law_draw : Gf P w K mg base "_law_draw" ["_law_dice_here", "_law_sides"] 1 sp_law_draw) : FnOk P w K mg base CX0 2 f fd ["_law_dice_here", "_law_most"] sp_law_parts := by
  refine F.ok sc_law_parts (fun vs H Q E h => ?_) (fun cdv A outer s H vs Q E hr h => ?_)
  · obtain ⟨d, c, rfl, hdi, k⟩ := h
    rfl
  · obtain ⟨d, c, rfl, hdi, k⟩ := h
    refine ⟨_, (pss_cons (ps_set (i := 2) sc_law_parts.nd rfl (Or.inr rfl) (pe_op op_add pe_int (pe_g G_law_draw (hr.mono (by decide)) (by rfl) (pa_cons (pv 0) (pa_cons (pv 1) pa_nil)))))
        (pss_cons (ps_set (i := 3) sc_law_parts.nd rfl (Or.inl rfl) (pe_g G_law_draw (hr.mono (by decide)) (by rfl) (pa_cons (pv 0) (pa_cons pe_int pa_nil))))
        (pss_cons (ps_set (i := 4) sc_law_parts.nd rfl (Or.inl rfl) (pe_lst pa_nil))
        (Evl.pss_cut (ps_if (PW.pt (pw_and (pt_cmpR op_eq (pv 3) pe_int (nomark _)) (pw_and1 (pt_cmpR op_gt (pv 2) pe_int (nomark _))))) (pss_one (ps_setLc (i := 4) (own := [("_law_desk", 7)]) (g := gName 7) (tt := tYes) rfl sc_law_parts.nd rfl rfl (sw_true rfl rfl rfl (by decide +kernel)) (pi_range1 (by rfl) Tx.b_range (pa_cons (pv 2) pa_nil)) (blkOk_by (own := [("_law_desk", 7)]) (N := ["_law_dice_here", "_law_most", "_law_desks", "_law_kind", "_law_lots", "_law_turn", "_law_lot", "_law_desk"]) (sc := (defScope s_law_parts)) (by decide +kernel)) (fun _ _ _ _ _ => (pg_name (i := 7) sc_law_parts.nd rfl (Or.inl rfl))) (fun _ _ _ _ _ => pts_nil) (fun _ _ _ _ _ => (pe_callTy (kcall_tup (K := K)) (by rfl) Tx.b_tuple (by decide +kernel) (pa_cons (pe_callB (kcr_sorted (K := K)) (by rfl) Tx.b_sorted (by decide +kernel) (pa_cons (pe_lst (pa_cons (pv 7) (pa_cons (pe_op op_modN (pe_callTy call_int1 (by rfl) Tx.b_int (by decide +kernel) (pa_cons (pe_op op_add (pv 7) pe_int) pa_nil)) (pv 2)) pa_nil))) pa_nil)) pa_nil))))) pss_nil)
        (Evl.pss_cut (ps_if (pt_cmpR op_eq (pv 3) pe_int (nomark _)) (pss_one (ps_setLc (i := 4) (own := [("_law_desk", 7)]) (g := gName 7) (tt := tYes) rfl sc_law_parts.nd rfl rfl (sw_true rfl rfl rfl (by decide +kernel)) (pi_range1 (by rfl) Tx.b_range (pa_cons (pv 2) pa_nil)) (blkOk_by (own := [("_law_desk", 7)]) (N := ["_law_dice_here", "_law_most", "_law_desks", "_law_kind", "_law_lots", "_law_turn", "_law_lot", "_law_desk"]) (sc := (defScope s_law_parts)) (by decide +kernel)) (fun _ _ _ _ _ => (pg_name (i := 7) sc_law_parts.nd rfl (Or.inl rfl))) (fun _ _ _ _ _ => pts_nil) (fun _ _ _ _ _ => (pe_tup (pa_cons (pv 7) pa_nil))))) pss_nil)
        (Evl.pss_cut (ps_if (PW.pt (pw_and (pt_cmpR op_eq (pv 3) pe_int (nomark _)) (pw_and1 (pt_cmpR op_gt (pv 2) pe_int (nomark _))))) (pss_one (ps_setLc (i := 4) (own := [("_law_desk", 7)]) (g := gName 7) (tt := tYes) rfl sc_law_parts.nd rfl rfl (sw_true rfl rfl rfl (by decide +kernel)) (pi_range2 (by rfl) Tx.b_range (pa_cons pe_int (pa_cons (pv 2) pa_nil))) (blkOk_by (own := [("_law_desk", 7)]) (N := ["_law_dice_here", "_law_most", "_law_desks", "_law_kind", "_law_lots", "_law_turn", "_law_lot", "_law_desk"]) (sc := (defScope s_law_parts)) (by decide +kernel)) (fun _ _ _ _ _ => (pg_name (i := 7) sc_law_parts.nd rfl (Or.inl rfl))) (fun _ _ _ _ _ => pts_nil) (fun _ _ _ _ _ => (pe_tup (pa_cons pe_int (pa_cons (pv 7) pa_nil)))))) pss_nil)
        (pss_cons (ps_for PassesOwn.never rfl (pi_range1 (by rfl) Tx.b_range (pa_cons (pe_op op_add pe_int (pe_g G_law_draw (hr.mono (by decide)) (by rfl) (pa_cons (pv 0) (pa_cons pe_int pa_nil)))) pa_nil)) (pg_name (i := 5) sc_law_parts.nd rfl (Or.inl rfl))
        (pss_cons (ps_set (i := 6) sc_law_parts.nd rfl (Or.inl rfl) (pe_callTy (kcall_tup (K := K)) (by rfl) Tx.b_tuple (by decide +kernel) (pa_cons (pe_lc (own := [("_law_desk", 7)]) (g := gName 7) (tt := _) rfl sc_law_parts.nd (pi_range1 (by rfl) Tx.b_range (pa_cons (pv 2) pa_nil)) (blkOk_by (own := [("_law_desk", 7)]) (N := ["_law_dice_here", "_law_most", "_law_desks", "_law_kind", "_law_lots", "_law_turn", "_law_lot", "_law_desk"]) (sc := (defScope s_law_parts)) (by decide +kernel)) (fun _ _ _ _ _ => (pg_name (i := 7) sc_law_parts.nd rfl (Or.inl rfl))) (fun _ _ _ _ _ => (pts_one (pt_cmpR op_eq (pe_g G_law_draw (hr.mono (by decide)) (by rfl) (pa_cons (pv 0) (pa_cons pe_int pa_nil))) pe_int (nomark _)))) (fun _ _ _ _ _ => (pv 7))) pa_nil)))
        (pss_one (ps_expr (kpe_bm (K := K) (pe_bm PySem.F.plainAttrs_list PySem.F.slot_list_append PySem.F.type_list_append mt_append (pv 4) (pa_cons (pe_ifExp (pt_cmpR op_gt (pe_callB (kcall_len (K := K)) (by rfl) Tx.b_len (by decide +kernel) (pa_cons (pv 6) pa_nil)) pe_int (nomark _)) (pv 6) (pe_tup (pa_cons (pe_g G_law_draw (hr.mono (by decide)) (by rfl) (pa_cons (pv 0) (pa_cons (pv 2) pa_nil))) pa_nil))) pa_nil)))))))
        (pss_one (ps_ret (pe_tup (pa_cons (pv 2) (pa_cons (pe_callTy (kcall_tup (K := K)) (by rfl) Tx.b_tuple (by decide +kernel) (pa_cons (pe_slice (ksl_list (K := K)) (pv 4) po_none (po_some pe_int)) pa_nil)) pa_nil)))))))))))), ?_⟩
    have nD := hdi.d
    have nC := hdi.c
    refine ⟨_, rfl, _, rfl, d, c, 4, rfl, hdi, by decide, by decide, fun n0 H1 hn0 k1 hd1 => ⟨_, _, rfl, rfl, ?_⟩⟩
    obtain ⟨dd, edd, dd1, dd4⟩ : ∃ dd : Nat, (1 + (n0 : Int)) = (dd : Int) ∧ 1 ≤ dd ∧ dd ≤ 4 := ⟨1 + n0, by omega, by omega, by omega⟩
    dsimp only
    rw [edd]
    refine ⟨_, rfl, d, c, 4, rfl, hd1, by decide, by decide, fun kind H2 hk2 k2 hd2 => ⟨Nat.zero_le _, fun l0 nl0 => ?_⟩⟩
    have k12 := k1.trans k2
    have kl0 : Kp [] H2 (upd H2 l0 (.lst [])) := Kp.new nl0
    have nl0H : H l0 = none := k12.free _ nl0
    -- what holds between the three ifs
    have ifs : ∃ Mid : FT → Hp → Prop, (∀ σ H', Mid σ H' ↔ ∃ l xs, Kp [d] H H' ∧ DiceAt H' d c ∧ H l = none ∧ LT H' l xs ∧ (∀ x ∈ xs, LotOk dd x) ∧ xs.length ≤ 4 ∧ σ = [some (.ref d), some (.int 4), some (.int (dd : Int)), some (.int (kind : Int)), some (.ref l), none, none, none]) := ⟨_, fun _ _ => Iff.rfl⟩
    obtain ⟨Mid, hMid⟩ := ifs
    have mk : ∀ {H' : Hp} {D : Addr} {ys : List V}, Kp [d] H H' → DiceAt H' d c → H D = none → H' D = some (.lst ys) → ys.length ≤ 4 → (∀ (i : Nat) y, ys[i]? = some y → ∃ lot, T1 H' y lot ∧ LotOk dd lot) → Mid [some (.ref d), some (.int 4), some (.int (dd : Int)), some (.int (kind : Int)), some (.ref D), none, none, none] H' := by
      intro H' D ys a1 a2 a3 a4 a5 a6
      obtain ⟨xs, b1, b2, b3⟩ := some_lots a6
      exact (hMid _ _).mpr ⟨D, xs, a1, a2, a3, ⟨ys, a4, b1, b2⟩, b3, by omega, rfl⟩
    refine ⟨Mid, ?_, ?_⟩
    · -- the ring
      have keep : Mid [some (.ref d), some (.int 4), some (.int (dd : Int)), some (.int (kind : Int)), some (.ref l0), none, none, none] (upd H2 l0 (.lst [])) := mk (k12.trans kl0.any) (hd2.kp kl0 (fun z => nomatch z) (fun z => nomatch z)) nl0H upd_same (by simp) (fun i y e => by simp at e)
      refine ⟨_, rfl, rfl, _, rfl, ?_⟩
      refine ite2 ⟨_, rfl, _, _, rfl, rfl, _, rfl, ?_⟩ (iteF keep)
      by_cases h2 : (2 : Int) < (dd : Int)
      · rw [decide_eq_true h2]
        refine iteT (r_asg ?_)
        refine t_lc (walk_range (lo := 0) (n := ((dd : Nat) : Int).toNat)) (ch := []) (H1 := upd H2 l0 (.lst [])) (fun R q => ⟨_, rfl, _, rfl, by omega, by omega, q⟩) (fun D i y H' => ∃ lot, T1 H' y lot ∧ LotOk dd lot) no_ch (by omega) (fun _ _ => trivial) yk_fn (fun D i y H' H'' k h => let ⟨lot, h1, h2⟩ := h; ⟨lot, h1.tk k.tk, h2⟩) ?_ ?_
        · rintro D i x H4 H3 Q' hD hi k3 ⟨rfl, rfl⟩ q
          refine ⟨rfl, _, rfl, _, rfl, _, _, rfl, rfl, .inl ⟨_, rfl, _, rfl, _, _, rfl, rfl, (by show (dd : Int) ≠ 0; omega), two_le, fun p hp => ?_⟩⟩
          dsimp only
          have e0 := Int.fmod_nonneg_of_pos (0 + (i : Int) + 1) (b := (dd : Int)) (by omega)
          have e1 := Int.fmod_lt_of_pos (0 + (i : Int) + 1) (b := (dd : Int)) (by omega)
          have ene : 0 + (i : Int) ≠ (0 + (i : Int) + 1).fmod (dd : Int) := by
            rw [Int.fmod_eq_emod_of_nonneg _ (by omega)]
            by_cases hid : i + 1 < dd
            · rw [Int.emod_eq_of_lt (by omega) (by omega)]; omega
            · have e2 : (0 + (i : Int) + 1) = (dd : Int) := by omega
              rw [e2, Int.emod_self]; omega
          generalize hm : (0 + (i : Int) + 1).fmod (dd : Int) = mm at e0 e1 ene
          have kp : Kp [] H3 (upd H3 p (.lst [.int (0 + (i : Int)), .int mm])) := Kp.new hp
          refine ⟨p, [0 + (i : Int), mm], rfl, SqL.of upd_same, by show (2 : Nat) < 64; decide, fun ns' p2 perm pw hp2 => ?_⟩
          obtain ⟨x, y, rfl, hxy, hx, hy⟩ := perm_two perm pw ene
          refine ⟨p2, _, rfl, .inl ⟨SqL.of upd_same, fun p3 hp3 => q _ _ ((kp.new' hp2).new' hp3) ⟨[x.toNat, y.toNat], ⟨p3, rfl, ?_⟩, lot_two (by omega) (by omega)⟩⟩⟩
          rw [upd_same]
          show some (HO.tup [V.int x, V.int y]) = some (HO.tup [V.int (x.toNat : Nat), V.int (y.toNat : Nat)])
          rw [Int.toNat_of_nonneg (by omega), Int.toNat_of_nonneg (by omega)]
        · intro D ys H3 hD k3 hy hl hR
          have kk := (k12.trans kl0.any).trans k3.any
          exact mk kk ((hd2.kp kl0 (fun z => nomatch z) (fun z => nomatch z)).kp k3 (fun z => nomatch z) (fun z => nomatch z)) (k12.free _ (kl0.free _ hD)) hy (by omega) hR
      · rw [decide_eq_false h2]
        exact iteF keep
    · intro σ H3 m3
      obtain ⟨l3, xs3, a1, a2, a3, a4, a5, a6, rfl⟩ := (hMid _ _).mp m3
      refine ⟨Mid, ?_, ?_⟩
      · refine ⟨_, rfl, rfl, _, rfl, ?_⟩
        refine ite2 (r_asg ?_) m3
        refine t_lc (walk_range (lo := 0) (n := ((dd : Nat) : Int).toNat)) (ch := []) (H1 := H3) (fun R q => ⟨_, rfl, _, rfl, by omega, by omega, q⟩) (fun D i y H' => ∃ lot, T1 H' y lot ∧ LotOk dd lot) no_ch (by omega) (fun _ _ => trivial) yk_fn (fun D i y H' H'' k h => let ⟨lot, h1, h2⟩ := h; ⟨lot, h1.tk k.tk, h2⟩) ?_ ?_
        · rintro D i x H5 H4 Q' hD hi k3 ⟨rfl, rfl⟩ q
          exact ⟨rfl, _, rfl, one_le, fun p hp => q _ _ (Kp.new hp) ⟨[i], ⟨p, rfl, by rw [upd_same]; show some (HO.tup [V.int (0 + (i : Int))]) = some (HO.tup [V.int (i : Int)]); rw [Int.zero_add]⟩, lot_one (by omega)⟩⟩
        · intro D ys H4 hD k3 hy hl hR
          exact mk (a1.trans k3.any) (a2.kp k3 (fun z => nomatch z) (fun z => nomatch z)) (a1.free _ hD) hy (by omega) hR
      · intro σ H4 m4
        obtain ⟨l4, xs4, a1, a2, a3, a4, a5, a6, rfl⟩ := (hMid _ _).mp m4
        refine ⟨Mid, ?_, ?_⟩
        · refine ⟨_, rfl, rfl, _, rfl, ?_⟩
          refine ite2 ⟨_, rfl, _, _, rfl, rfl, _, rfl, ?_⟩ (iteF m4)
          refine ite2 (r_asg ?_) m4
          refine t_lc (walk_range (lo := 1) (n := ((dd : Int) - 1).toNat)) (ch := []) (H1 := H4) (fun R q => ⟨_, rfl, _, _, rfl, by omega, q⟩) (fun D i y H' => ∃ lot, T1 H' y lot ∧ LotOk dd lot) no_ch (by omega) (fun _ _ => trivial) yk_fn (fun D i y H' H'' k h => let ⟨lot, h1, h2⟩ := h; ⟨lot, h1.tk k.tk, h2⟩) ?_ ?_
          · rintro D i x H6 H5 Q' hD hi k3 ⟨rfl, rfl⟩ q
            exact ⟨rfl, _, rfl, two_le, fun p hp => q _ _ (Kp.new hp) ⟨[0, 1 + i], ⟨p, rfl, by rw [upd_same]; rfl⟩, lot_two (by omega) (by omega)⟩⟩
          · intro D ys H5 hD k3 hy hl hR
            exact mk (a1.trans k3.any) (a2.kp k3 (fun z => nomatch z) (fun z => nomatch z)) (a1.free _ hD) hy (by omega) hR
        · intro σ H5 m5
          obtain ⟨l5, xs5, a1, a2, a3, a4, a5, a6, rfl⟩ := (hMid _ _).mp m5
          refine ⟨_, rfl, d, c, 4, rfl, a2, by decide, by decide, fun n H6 hn k6 hd6 => ⟨_, _, rfl, rfl, _, rfl, by omega, by omega, ?_⟩⟩
          have dd5 : DiceAt H5 d c := a2
          have n5d : l5 ≠ d := fun e => nD (e ▸ a3)
          have k56 := a1.trans k6
          refine for_it (walk_range (lo := 0) (n := (1 + (n : Int)).toNat)) (fun i σ H' => Kp [d] H H' ∧ DiceAt H' d c ∧ (∃ xs, LT H' l5 xs ∧ (∀ x ∈ xs, LotOk dd x) ∧ i ≤ xs.length ∧ xs.length ≤ 4 + i) ∧ ∃ x5 x6, σ = [some (.ref d), some (.int 4), some (.int (dd : Int)), some (.int (kind : Int)), some (.ref l5), x5, x6, none])
            ⟨k56, hd6, ⟨xs5, a4.kp k6 (by simpa using n5d), a5, Nat.zero_le _, a6⟩, _, _, rfl⟩ (fun _ _ _ _ _ => trivial) ?_ ?_
          · rintro i x σ H8 H7 hi ⟨k7, hd7, ⟨xs7, hlt7, hok7, hi7, hl7⟩, z5, z6, rfl⟩ ⟨rfl, rfl⟩
            refine t_tupW (walk_range (lo := 0) (n := ((dd : Nat) : Int).toNat)) (ch := [d]) (H1 := H7) (fun R q => ⟨_, rfl, _, rfl, by omega, by omega, q⟩) (fun i ys H' => DiceAt H' d c ∧ ∃ ns, ys = vz ns ∧ (∀ x ∈ ns, x < i) ∧ ns.Pairwise (· < ·)) (fun x hx => by rw [List.mem_singleton.mp hx]; exact hd7.d) (by omega) (fun _ _ => trivial)
              (fun D hD => ⟨hd7.kp (ch := []) (Kp.new hD) (fun z => nomatch z) (fun z => nomatch z), [], rfl, (fun x hx => absurd hx List.not_mem_nil), List.Pairwise.nil⟩) ?_ ?_
            · rintro D j x H9 H8 ys QT QF hD hj k8 hys ⟨hd8, ns, rfl, hlt, hpw⟩ ⟨rfl, rfl⟩ qT qF
              refine ⟨rfl, _, rfl, d, c, 2, rfl, hd8, by decide, by decide, fun n H9 hn k9 hd9 => ⟨rfl, _, rfl, ite2 ⟨_, rfl, ?_⟩ (qF _ k9 ⟨hd9, ns, rfl, fun x hx => Nat.lt_succ_of_lt (hlt x hx), hpw⟩)⟩⟩
              have nDd : D ≠ d := fun e => by rw [e] at hD; exact hd7.d hD
              have nDc : D ≠ c := fun e => by rw [e] at hD; exact hd7.c hD
              have hy9 : H9 D = some (.lst (vz ns)) := k9.at hys (by simpa using nDd)
              refine qT _ _ k9 ⟨hd9.kp (ch := [D]) (Kp.refl.put List.mem_cons_self fun xs e => by rw [hy9] at e; cases e) (by simpa using Ne.symm nDd) (by simpa using Ne.symm nDc), ns ++ [j], ?_, fun x hx => ?_, ?_⟩
              · rw [vz_append]; show vz ns ++ [V.int (0 + (j : Int))] = vz ns ++ [V.int (j : Int)]; rw [Int.zero_add]
              · rcases List.mem_append.mp hx with h | h
                · exact Nat.lt_succ_of_lt (hlt x h)
                · rw [List.mem_singleton.mp h]; exact Nat.lt_succ_self _
              · rw [List.pairwise_append]
                exact ⟨hpw, List.pairwise_singleton _ _, fun a ha b hb => by rw [List.mem_singleton.mp hb]; exact hlt a ha⟩
            · rintro D ys H8 p hD k8 hys hyl ⟨hd8, ns, rfl, hlt, hpw⟩ hp
              have kp : Kp [] H8 (upd H8 p (.tup (vz ns))) := Kp.new hp
              have k9 := (k7.trans k8).trans kp.any
              have hd9 := hd8.kp kp (fun z => nomatch z) (fun z => nomatch z)
              have hlt9 := (hlt7.kp k8 (by simpa using n5d)).kp kp (fun z => nomatch z)
              have hp9 : (upd H8 p (.tup (vz ns))) p = some (.tup (vz ns)) := upd_same
              generalize upd H8 p (.tup (vz ns)) = H9 at k9 hd9 hlt9 hp9
              obtain ⟨zs, hz, hzl, hzx⟩ := hlt9
              have grow : ∀ {H10 : Hp} {v : V} {lot : List Nat}, Kp [d] H9 H10 → DiceAt H10 d c → T1 H10 v lot → LotOk dd lot → ∃ l xs y, V.ref l5 = .ref l ∧ [v] = [y] ∧ H10 l = some (.lst xs) ∧ xs.length < sizeLine ∧
                  (Kp [d] H (upd H10 l (.lst (xs ++ [y]))) ∧ DiceAt (upd H10 l (.lst (xs ++ [y]))) d c ∧ (∃ xs', LT (upd H10 l (.lst (xs ++ [y]))) l5 xs' ∧ (∀ x ∈ xs', LotOk dd x) ∧ i + 1 ≤ xs'.length ∧ xs'.length ≤ 4 + (i + 1))) := by
                intro H10 v lot k10 hd10 t10 lo
                have hz10 : H10 l5 = some (.lst zs) := k10.at hz (by simpa using n5d)
                have n5c : c ≠ l5 := fun e => nC (by rw [e]; exact a3)
                have kz : Kp [l5] H10 (upd H10 l5 (.lst (zs ++ [v]))) := Kp.refl.put List.mem_cons_self fun xs e => by rw [hz10] at e; cases e
                refine ⟨l5, zs, v, rfl, rfl, hz10, size_lt (by omega), (k9.trans k10).mut a3, hd10.kp kz (by simpa using Ne.symm n5d) (by simpa using n5c), xs7 ++ [lot], ?_, fun x hx => ?_, by simp; omega, by simp; omega⟩
                · exact LR.push (fun t h => h.tk t) hzl hzx k10.tk hz10 t10
                · rcases List.mem_append.mp hx with h | h
                  · exact hok7 x h
                  · rw [List.mem_singleton.mp h]; exact lo
              refine ⟨_, rfl, .inl ⟨rfl, zs, SqL.of hz⟩, _, rfl, p, _, rfl, .inr (SqT.of hp9), _, _, rfl, rfl, _, rfl, ?_⟩
              by_cases hns : ns = []
              · subst hns
                rw [decide_eq_false (by show ¬ (0 : Int) < ((0 : Nat) : Int); decide)]
                refine iteF ⟨_, rfl, _, rfl, d, c, dd, rfl, hd9, dd1, by omega, fun m H10 hm k10 hd10 => ⟨one_le, fun q hq => ?_⟩⟩
                have kq : Kp [] H10 (upd H10 q (.tup [.int (m : Int)])) := Kp.new hq
                obtain ⟨l, xs, y, h1, h2, h3, h4, h5, h6, h7⟩ := grow (v := .ref q) (k10.trans kq.any) (hd10.kp kq (fun z => nomatch z) (fun z => nomatch z)) ⟨q, rfl, upd_same⟩ (lot_one hm)
                exact ⟨l, xs, y, h1, h2, h3, h4, h5, h6, h7, _, _, rfl⟩
              · have hpos := List.length_pos_iff.mpr hns
                rw [decide_eq_true (by rw [vz_len]; omega)]
                obtain ⟨l, xs, y, h1, h2, h3, h4, h5, h6, h7⟩ := grow (v := .ref p) Kp.refl hd9 ⟨p, rfl, hp9⟩ (lot_of hns (fun x hx => by have := hlt x hx; omega) hpw)
                exact iteT ⟨_, rfl, l, xs, y, h1, h2, h3, h4, h5, h6, h7, _, _, rfl⟩
          · rintro σ H7 ⟨k7, hd7, ⟨xs7, ⟨ys, hy, hyl, hyx⟩, hok7, hi7, hl7⟩, z5, z6, rfl⟩
            refine ⟨_, rfl, _, rfl, _, rfl, l5, ys, rfl, SqL.of hy, fun p hp => ⟨p, _, rfl, .inl ⟨SqL.of upd_same, fun q hq => ⟨two_le, fun r hr => ?_⟩⟩⟩⟩
            have ec : cutV ys none (some 10) = ys.take 10 := cut_take ys 10
            rw [ec] at hq hr ⊢
            have k8 : Kp [] H7 (upd (upd (upd H7 p (.lst (ys.take 10))) q (.tup (ys.take 10))) r (.tup [.int (dd : Int), .ref q])) := ((Kp.new hp).new' hq).new' hr
            have hq8 : (upd (upd (upd H7 p (.lst (ys.take 10))) q (.tup (ys.take 10))) r (.tup [.int (dd : Int), .ref q])) q = some (.tup (ys.take 10)) := Kp.get (Kp.new hr) upd_same
            refine k _ dd (xs7.take 10) _ (k7.trans k8.any) (hd7.kp k8 (fun z => nomatch z) (fun z => nomatch z)) ⟨dd1, dd4, by rw [List.length_take]; omega, by rw [List.length_take]; omega, fun l hl => hok7 l (List.mem_of_mem_take hl)⟩ ⟨r, .ref q, rfl, upd_same, q, ys.take 10, rfl, hq8, by rw [List.length_take, List.length_take, hyl], fun i x y e1 e2 => ?_⟩
            rw [List.getElem?_take] at e1 e2
            split at e1
            · rw [if_pos (by assumption)] at e2
              exact (hyx i x y e1 e2).tk k8.tk
            · cases e1

abbrev s_law_made : Stmt := top 58
theorem sc_law_made : FnScope ["_law_parts_here"] ["_law_parts_here"] (defScope s_law_made) := ⟨rfl, rfl, rfl, by decide +kernel, rfl, by decide +kernel, by decide +kernel⟩
theorem ok_law_made {f : Addr} {fd : FuncData} (F : Fun K "_law_made" "_law_made" s_law_made f fd) (Tx : Txt mg) (C_Office : Gc P w K mg base "Office" COffice ["self", "desks", "works"] 5 (sp_Office_init K COffice)) : FnOk P w K mg base CX0 7 f fd ["_law_parts_here"] (sp_law_made K COffice) := by
  refine F.ok sc_law_made (fun vs H Q E h => ?_) (fun cdv A outer s H vs Q E hr h => ?_)
  · obtain ⟨v, d, ws, rfl, ⟨a, v2, rfl, ha, h2⟩, ok, k⟩ := h
    rfl
  · obtain ⟨v, d, ws, rfl, ⟨a, v2, rfl, ha, h2⟩, ok, k⟩ := h
    refine ⟨_, (pss_one (ps_ret (pe_c C_Office (hr.mono (by decide)) (by rfl) (pa_cons (pe_ix (kix_tup (K := K)) (pv 0) pe_int (fun _ _ => rfl)) (pa_cons (pe_ix (kix_tup (K := K)) (pv 0) pe_int (fun _ _ => rfl)) pa_nil))))), ?_⟩
    have hT : T1 H (.int 0) [] → True := fun _ => trivial
    refine ⟨_, rfl, a, _, _, _, rfl, rfl, SqT.of ha, at_of (j := 0) rfl rfl, _, rfl, a, _, _, _, rfl, rfl, SqT.of ha, at_of (j := 1) rfl rfl, ?_⟩
    intro x dx nx ndx hne
    have kx : Kp [] H (upd (upd H dx (.own x)) x (.ins COffice dx [])) := (Kp.new ndx).new' (by rw [upd_ne (Ne.symm hne)]; exact nx)
    refine ⟨x, dx, v2, d, ws, rfl, upd_same, T2.tk kx.tk h2, ok, lot_ten ok, fun H1 k1 ho => ⟨rfl, k x H1 ⟨fun a o e n => ?_, fun a e => kx.free a (k1.free a e)⟩ ho⟩⟩
    have ne : a ≠ x := ne_of2 e nx
    exact k1.at (kx.get e) (by simpa using ne)

abbrev s_law_row : Stmt := top 59
theorem sc_law_row : FnScope ["_law_dice_here", "_law_parts_here", "_law_most", "_law_turn"] ["_law_dice_here", "_law_parts_here", "_law_most"] (defScope s_law_row) := ⟨rfl, rfl, rfl, by decide +kernel, rfl, by decide +kernel, by decide +kernel⟩
theorem ok_law_row {f : Addr} {fd : FuncData} (F : Fun K "_law_row" "_law_row" s_law_row f fd) (Tx : Txt mg) (G_law_draw : Gf P w K mg base "_law_draw" ["_law_dice_here", "_law_sides"] 1 sp_law_draw) : FnOk P w K mg base CX0 2 f fd ["_law_dice_here", "_law_parts_here", "_law_most"] sp_law_row := by
  refine F.ok sc_law_row (fun vs H Q E h => ?_) (fun cdv A outer s H vs Q E hr h => ?_)
  · obtain ⟨d, c, v, dd, ws, rfl, hdi, ⟨a, v2, rfl, ha, h2⟩, ok, k⟩ := h
    rfl
  · obtain ⟨d, c, v, dd, ws, rfl, hdi, ⟨a, v2, rfl, ha, h2⟩, ok, k⟩ := h
    refine ⟨_, (pss_one (ps_ret (pe_callTy (kcall_tup (K := K)) (by rfl) Tx.b_tuple (by decide +kernel) (pa_cons (pe_lc (own := [("_law_turn", 3)]) (g := gName 3) (tt := tYes) rfl sc_law_row.nd (pi_range1 (by rfl) Tx.b_range (pa_cons (pe_g G_law_draw (hr.mono (by decide)) (by rfl) (pa_cons (pv 0) (pa_cons (pe_op op_add (pv 2) pe_int) pa_nil))) pa_nil)) (blkOk_by (own := [("_law_turn", 3)]) (N := ["_law_dice_here", "_law_parts_here", "_law_most", "_law_turn"]) (sc := (defScope s_law_row)) (by decide +kernel)) (fun _ _ _ _ _ => (pg_name (i := 3) sc_law_row.nd rfl (Or.inl rfl))) (fun _ _ _ _ _ => pts_nil) (fun _ _ _ _ _ => (pe_g G_law_draw (hr.mono (by decide)) (by rfl) (pa_cons (pv 0) (pa_cons (pe_callB (kcall_len (K := K)) (by rfl) Tx.b_len (by decide +kernel) (pa_cons (pe_ix (kix_tup (K := K)) (pv 1) pe_int (fun _ _ => rfl)) pa_nil)) pa_nil))))) pa_nil)))), ?_⟩
    obtain ⟨aw, wsv, rfl, haw, hwl, hwx⟩ := h2
    have w1 := ok.w1
    have w10 := ok.w10
    have nD := hdi.d
    have nC := hdi.c
    refine t_cbC (ι := Nat × Hp) (fun x => Itr 0 x.1) (fun x => x.2) (fun x => Kp [d] H x.2 ∧ DiceAt x.2 d c ∧ x.1 ≤ 8) (fun R q => ⟨_, rfl, _, rfl, _, _, rfl, rfl, d, c, 9, rfl, hdi, by decide, by decide, fun n H1 hn k1 hd1 => ⟨_, rfl, by omega, by omega, q (_, H1) ⟨k1, hd1, by simp; omega⟩⟩⟩) ?_
    rintro ⟨n, H1⟩ ⟨k1, hd1, hn⟩
    dsimp only at k1 hd1 hn
    refine t_tupW (walk_range (lo := 0) (n := n)) (ch := [d]) (H1 := H1) (fun R q => q) (fun i ys H' => DiceAt H' d c ∧ ∃ ns, ys = vz ns ∧ ns.length = i ∧ ∀ m ∈ ns, m < ws.length) (fun x hx => by rw [List.mem_singleton.mp hx]; exact hd1.d) (by omega) (fun _ _ => trivial) (fun D hD => ⟨hd1.kp (ch := []) (Kp.new hD) (fun z => nomatch z) (fun z => nomatch z), [], rfl, rfl, fun m hm => by simp at hm⟩) ?_ ?_
    · rintro D i x H3 H2 ys QT QF hD hi k2 hys ⟨hd2, ns, rfl, hl, hm⟩ ⟨rfl, rfl⟩ qT qF
      refine ⟨rfl, r_yes ⟨_, rfl, _, rfl, a, _, _, _, rfl, rfl, SqT.of ((k1.trans k2).tup ha), at_of (j := 1) rfl rfl, aw, _, rfl, .inr (SqT.of ((k1.trans k2).tup haw)), d, c, ws.length, by rw [hwl]; rfl, hd2, w1, by omega, fun m H4 hm4 k4 hd4 => ?_⟩⟩
      have nDd : D ≠ d := fun e => by rw [e] at hD; exact hd1.d hD
      have nDc : D ≠ c := fun e => by rw [e] at hD; exact hd1.c hD
      have hy4 : H4 D = some (.lst (vz ns)) := k4.at hys (by simpa using nDd)
      refine qT _ _ k4 ⟨hd4.kp (ch := [D]) (Kp.refl.put List.mem_cons_self fun xs e => by rw [hy4] at e; cases e) (by simpa using Ne.symm nDd) (by simpa using Ne.symm nDc), ns ++ [m], by rw [vz_append]; rfl, by rw [List.length_append, hl]; rfl, fun z hz => ?_⟩
      rcases List.mem_append.mp hz with h | h
      · exact hm z h
      · rw [List.mem_singleton.mp h]; exact hm4
    · rintro D ys H2 p hD k2 hys hyl ⟨hd2, ns, rfl, hl, hm⟩ hp
      exact k _ ns _ ((k1.trans k2).new' hp) (hd2.kp (ch := []) (Kp.new hp) (fun z => nomatch z) (fun z => nomatch z)) ⟨p, rfl, upd_same⟩ (by omega) hm

abbrev s_law_all_notes : Stmt := top 60
theorem sc_law_all_notes : FnScope ["_law_many", "_law_found", "_law_number", "_law_longer", "_law_notes_here", "_law_fresh"] ["_law_many"] (defScope s_law_all_notes) := ⟨rfl, rfl, rfl, by decide +kernel, rfl, by decide +kernel, by decide +kernel⟩
theorem ok_law_all_notes {f : Addr} {fd : FuncData} (F : Fun K "_law_all_notes" "_law_all_notes" s_law_all_notes f fd) (Tx : Txt mg)  : FnOk P w K mg base CX0 1 f fd ["_law_many"] sp_law_all_notes := by
  refine F.ok sc_law_all_notes (fun vs H Q E h => ?_) (fun cdv A outer s H vs Q E hr h => ?_)
  · obtain ⟨a, many, rfl, hm, h4, h6, k⟩ := h
    rfl
  · obtain ⟨a, many, rfl, hm, h4, h6, k⟩ := h
    refine ⟨_, (pss_cons (ps_set (i := 1) sc_law_all_notes.nd rfl (Or.inl rfl) (pe_lst (pa_cons (pe_tup pa_nil) pa_nil)))
        (pss_cons (ps_for PassesOwn.never rfl (kpi_seq (K := K) (pv 0)) (pg_name (i := 2) sc_law_all_notes.nd rfl (Or.inl rfl))
        (pss_cons (ps_set (i := 3) sc_law_all_notes.nd rfl (Or.inl rfl) (pe_lst pa_nil))
        (pss_cons (ps_for PassesOwn.never rfl (kpi_list (K := K) (pv 1)) (pg_name (i := 4) sc_law_all_notes.nd rfl (Or.inr rfl))
        (pss_one (ps_expr (kpe_bm (K := K) (pe_bm PySem.F.plainAttrs_list PySem.F.slot_list_extend PySem.F.type_list_extend mt_extend (pv 3) (pa_cons (pe_lc (own := [("_law_fresh", 5)]) (g := gName 5) (tt := tYes) rfl sc_law_all_notes.nd (pi_range1 (by rfl) Tx.b_range (pa_cons (pv 2) pa_nil)) (blkOk_by (own := [("_law_fresh", 5)]) (N := ["_law_many", "_law_found", "_law_number", "_law_longer", "_law_notes_here", "_law_fresh"]) (sc := (defScope s_law_all_notes)) (by decide +kernel)) (fun _ _ _ _ _ => (pg_name (i := 5) sc_law_all_notes.nd rfl (Or.inl rfl))) (fun _ _ _ _ _ => pts_nil) (fun _ _ _ _ _ => (pe_op (kop_catA (K := K)) (pv 4) (pe_tup (pa_cons (pv 5) pa_nil))))) pa_nil))))))
        (pss_one (ps_set (i := 1) sc_law_all_notes.nd rfl (Or.inl rfl) (pv 3))))))
        (pss_one (ps_ret (pv 1))))), ?_⟩
    refine ⟨Nat.zero_le _, fun e0 n0 => ⟨one_le, fun l0 m0 => ?_⟩⟩
    have k0 : Kp [] H (upd (upd H e0 (.tup [])) l0 (.lst [.ref e0])) := (Kp.new n0).new' m0
    refine t_seq rfl (hm.imp (fun h => k0.get h) fun h => k0.get h) fun J G w hG => ?_
    refine for_it w (fun i σ H' => Kp [] H H' ∧ ∃ l x y z, H l = none ∧ LT H' l ((many.take i).foldl longer [[]]) ∧ σ = [some (.ref a), some (.ref l), x, y, z, none]) ⟨k0, l0, none, none, none, (Kp.new (ch := []) n0).free _ m0, ⟨[.ref e0], upd_same, rfl, fun i x y e1 e2 => ?_⟩, rfl⟩ (fun i σ H' hi q => hG _ fun o e => ?_) ?_ ?_
    · cases i with
      | zero =>
        injection e1 with e1
        injection e2 with e2
        subst e1
        subst e2
        exact ⟨e0, rfl, by rw [upd_ne (ne_of2 (H := upd H e0 (.tup [])) upd_same m0)]; exact upd_same⟩
      | succ i => simp at e1
    · rcases hm with h | h
      · have := k0.get h
        rw [e] at this
        injection this with this
        rw [this]
        exact q.1.get h
      · have := k0.get h
        rw [e] at this
        injection this with this
        rw [this]
        exact q.1.get h
    · rintro i x σ H2 H1 hi ⟨k1, l, z1, z2, z3, nl, ⟨vs, hl, hvl, hvx⟩, rfl⟩ ⟨rfl, hx⟩
      obtain ⟨n, hn, rfl⟩ := vz_of hx
      have n6 := h6 n (List.mem_of_getElem? hn)
      have fl := take_len h4 h6 i
      have il := item_len h4 i
      have ek : many.take (i + 1) = many.take i ++ [n] := by rw [List.take_add_one, hn, Option.toList_some]
      have ef : (many.take (i + 1)).foldl longer [[]] = longer ((many.take i).foldl longer [[]]) n := by rw [ek, List.foldl_append]; rfl
      generalize (many.take i).foldl longer [[]] = fs at hvl hvx fl ef il
      refine ⟨Nat.zero_le _, fun D hD => ?_⟩
      have nD : H D = none := k1.free D hD
      have kD : Kp [] H1 (upd H1 D (.lst [])) := Kp.new hD
      refine ⟨_, rfl, l, rfl, ⟨_, SqL.of (kD.get hl)⟩, ?_⟩
      refine for_it (walk_list (K := K) (a := l) (xs := vs)) (fun j σ H' => Kp [] H1 H' ∧ LT H' D (longer (fs.take j) n) ∧ ∃ y, σ = [some (.ref a), some (.ref l), some (.int (n : Int)), some (.ref D), y, none]) ⟨kD, ⟨[], upd_same, by simp [longer], fun i x y e1 e2 => by simp at e1⟩, _, rfl⟩ (fun i σ H' hi q => SqL.of (q.1.get hl)) ?_ ?_
      · rintro j x σ H3 H2 hj ⟨k2, ⟨ys, hy, hyl, hyx⟩, y, rfl⟩ ⟨rfl, hx4⟩
        have hjl : j < fs.length := by omega
        have e2 : fs[j]? = some fs[j] := List.getElem?_eq_getElem hjl
        have t1 := (hvx j x _ hx4 e2).tk k2.tk
        refine ⟨_, rfl, .inl ⟨rfl, ys, SqL.of hy⟩, ?_⟩
        refine t_lc (walk_range (lo := 0) (n := (n : Int).toNat)) (ch := []) (H1 := H2) (fun R q => ⟨_, rfl, n, rfl, by omega, by omega, q⟩) (fun D i y H' => T1 H' y (fs[j] ++ [i])) no_ch (by omega) (fun _ _ => trivial) yk_fn (fun D i y H' H'' k h => h.tk k.tk) ?_ ?_
        · rintro D2 q x2 H4 H5 Q' hD2 hq k5 ⟨rfl, rfl⟩ qq
          refine ⟨rfl, _, rfl, _, rfl, one_le, fun p hp => ?_⟩
          have kp : Kp [] H5 (upd H5 p (.tup [.int (0 + (q : Int))])) := Kp.new hp
          refine r_cat (ns := fs[j]) (ms := [q]) ((t1.tk k5.tk).tk kp.tk) ⟨p, rfl, by rw [upd_same]; show some (HO.tup [V.int (0 + (q : Int))]) = some (HO.tup [V.int (q : Int)]); rw [Int.zero_add]⟩ ?_ fun y H6 k6 t6 => qq y H6 (kp.trans k6) t6
          exact Nat.le_of_lt (size_lt (by have := il _ (List.getElem_mem hjl); show fs[j].length + 1 ≤ _; omega))
        · intro D2 zs H4 hD2 k4 hz hzl hzx
          have tl : (longer (fs.take j) n).length = j * n := by rw [len_longer, List.length_take]; congr 1; omega
          have jn : j * n ≤ 1296 * 6 := Nat.mul_le_mul (by omega) n6
          refine ⟨D, D2, ys, zs, rfl, rfl, k4.get hy, hz, size_le (by omega), (k2.trans k4).mut hD, ?_, _, rfl⟩
          rw [longer_take e2]
          refine LT.app hy hyl hyx k4 (by rw [hzl]; simp) fun i x y e1 e3 => ?_
          have e4 := hzx i x e1
          have hin : i < n := by have := (List.getElem?_eq_some_iff.mp e1).1; omega
          rw [List.getElem?_map, List.getElem?_range hin] at e3
          injection e3 with e3
          subst e3
          exact e4
      · rintro σ H2 ⟨k2, ⟨ys, hy, hyl, hyx⟩, y, rfl⟩
        refine ⟨_, rfl, k1.trans k2, D, _, _, _, nD, ?_, rfl⟩
        rw [ef]
        rw [hvl, List.take_length] at hyl hyx
        exact ⟨ys, hy, hyl, hyx⟩
    · rintro σ H1 ⟨k1, l, z1, z2, z3, nl, hlt, rfl⟩
      rw [vz_len, List.take_length] at hlt
      exact ⟨_, rfl, k l H1 k1 nl hlt⟩

abbrev s_law_machine_parts : Stmt := top 61
theorem sc_law_machine_parts : FnScope ["_law_dice_here", "_law_parts_here", "_law_most", "_law_many", "_law_kept", "_law_moves", "_law_lot", "_law_move", "_law_notes_here", "_law_later", "_law_tells", "_law_desk"] ["_law_dice_here", "_law_parts_here"] (defScope s_law_machine_parts) := ⟨rfl, rfl, rfl, by decide +kernel, rfl, by decide +kernel, by decide +kernel⟩
def Sml (dd most : Nat) : Prop := (dd ≤ 2 ∧ 1 ≤ most ∧ most ≤ 6) ∨ (dd = 3 ∧ most = 3) ∨ (dd = 4 ∧ most = 2)
theorem MoveAt.at {ch : List Addr} {H H' : Hp} {x : V} {many : List Nat} {f : List Nat → List Nat} (k : Kp ch H H') (h : MoveAt H x many f) (n : ∀ p kvs, x = .ref p → H p = some (.dT kvs) → p ∉ ch) : MoveAt H' x many f :=
  let ⟨p, kvs, h1, h2, h3, h4⟩ := h
  ⟨p, kvs, h1, k.at h2 (n p kvs h1 h2), h3, fun q hq => let ⟨y, e, r⟩ := h4 q hq; ⟨y, e, T1.tk k.tk r⟩⟩
theorem pick_some (kp : Nat) (h : kp < 3) : ∃ s : Nat, [V.int 2, V.int 3, V.int 10][kp]? = some (V.int (s : Int)) ∧ 1 ≤ s ∧ s ≤ 10 := by
  match kp, h with
  | 0, _ => exact ⟨2, rfl, by decide, by decide⟩
  | 1, _ => exact ⟨3, rfl, by decide, by decide⟩
  | 2, _ => exact ⟨10, rfl, by decide, by decide⟩
theorem not_take {l : List (List Nat)} (nd : l.Nodup) {j : Nat} {k : List Nat} (e : l[j]? = some k) : k ∉ l.take j := fun h => by
  obtain ⟨h1, e1⟩ := List.getElem?_eq_some_iff.mp e
  obtain ⟨i, hi, e2⟩ := List.getElem_of_mem h
  rw [List.length_take] at hi
  rw [List.getElem_take] at e2
  have a := nd_idx nd h1
  have b := nd_idx nd (show i < l.length by omega)
  rw [e1] at a
  rw [e2] at b
  omega
theorem ok_law_machine_parts {f : Addr} {fd : FuncData} (F : Fun K "_law_machine_parts" "_law_machine_parts" s_law_machine_parts f fd) (Tx : Txt mg) (G_law_all_notes : Gf P w K mg base "_law_all_notes" ["_law_many"] 1 sp_law_all_notes) (G_law_draw : Gf P w K mg base "_law_draw" ["_law_dice_here", "_law_sides"] 1 sp_law_draw) : FnOk P w K mg base CX0 2 f fd ["_law_dice_here", "_law_parts_here"] sp_law_machine_parts := by
  refine F.ok sc_law_machine_parts (fun vs H Q E h => ?_) (fun cdv A outer s H vs Q E hr h => ?_)
  · obtain ⟨d, c, v, dd, ws, rfl, hdi, ⟨pa, pw, rfl, hpa, aw, wsv, rfl, haw, hwl, hwx⟩, okO, k⟩ := h
    rfl
  · obtain ⟨d, c, v, dd, ws, rfl, hdi, ⟨pa, pw, rfl, hpa, aw, wsv, rfl, haw, hwl, hwx⟩, okO, k⟩ := h
    have hu := hu_of hr
    refine ⟨_, (Evl.pss_cut (ps_set (i := 2) sc_law_machine_parts.nd rfl (Or.inr rfl) (pe_ifExp (pt_cmpR op_lt (pe_ix (kix_tup (K := K)) (pv 1) pe_int (fun _ _ => rfl)) pe_int (nomark _)) pe_int pe_int))
        (Evl.pss_cut (ps_if (PW.pt (pw_and (pt_cmpR op_lt (pe_ix (kix_tup (K := K)) (pv 1) pe_int (fun _ _ => rfl)) pe_int (nomark _)) (pw_and1 (pt_cmpR op_eq (pe_g G_law_draw (hr.mono (by decide)) (by rfl) (pa_cons (pv 0) (pa_cons pe_int pa_nil))) pe_int (nomark _))))) (pss_one (ps_set (i := 2) sc_law_machine_parts.nd rfl (Or.inr rfl) pe_int)) pss_nil)
        (pss_cons (ps_set (i := 3) sc_law_machine_parts.nd rfl (Or.inr rfl) (pe_callTy (kcall_tup (K := K)) (by rfl) Tx.b_tuple (by decide +kernel) (pa_cons (pe_lc (own := [("_law_desk", 11)]) (g := gName 11) (tt := tYes) rfl sc_law_machine_parts.nd (pi_range1 (by rfl) Tx.b_range (pa_cons (pe_ix (kix_tup (K := K)) (pv 1) pe_int (fun _ _ => rfl)) pa_nil)) (blkOk_by (own := [("_law_desk", 11)]) (N := ["_law_dice_here", "_law_parts_here", "_law_most", "_law_many", "_law_kept", "_law_moves", "_law_lot", "_law_move", "_law_notes_here", "_law_later", "_law_tells", "_law_desk"]) (sc := (defScope s_law_machine_parts)) (by decide +kernel)) (fun _ _ _ _ _ => (pg_name (i := 11) sc_law_machine_parts.nd rfl (Or.inl rfl))) (fun _ _ _ _ _ => pts_nil) (fun _ _ _ _ _ => (pe_op op_add pe_int (pe_g G_law_draw (hr.mono (by decide)) (by rfl) (pa_cons (pv 0) (pa_cons (pv 2) pa_nil)))))) pa_nil)))
        (pss_cons (ps_set (i := 4) sc_law_machine_parts.nd rfl (Or.inl rfl) (pe_op op_add pe_int (pe_g G_law_draw (hr.mono (by decide)) (by rfl) (pa_cons (pv 0) (pa_cons pe_int pa_nil)))))
        (pss_cons (ps_set (i := 5) sc_law_machine_parts.nd rfl (Or.inl rfl) (pe_lst pa_nil))
        (pss_cons (ps_for PassesOwn.never rfl (kpi_tup (K := K) (pe_ix (kix_tup (K := K)) (pv 1) pe_int (fun _ _ => rfl))) (pg_name (i := 6) sc_law_machine_parts.nd rfl (Or.inl rfl))
        (pss_cons (ps_set (i := 7) sc_law_machine_parts.nd rfl (Or.inl rfl) pe_dnewT)
        (pss_cons (ps_for PassesOwn.never rfl (kpi_list (K := K) (pe_g G_law_all_notes (hr.mono (by decide)) (by rfl) (pa_cons (pe_lc (own := [("_law_desk", 11)]) (g := gName 11) (tt := tYes) rfl sc_law_machine_parts.nd (kpi_tup (K := K) (pv 6)) (blkOk_by (own := [("_law_desk", 11)]) (N := ["_law_dice_here", "_law_parts_here", "_law_most", "_law_many", "_law_kept", "_law_moves", "_law_lot", "_law_move", "_law_notes_here", "_law_later", "_law_tells", "_law_desk"]) (sc := (defScope s_law_machine_parts)) (by decide +kernel)) (fun _ _ _ _ _ => (pg_name (i := 11) sc_law_machine_parts.nd rfl (Or.inl rfl))) (fun _ _ _ _ _ => pts_nil) (fun _ _ _ _ _ => (pe_ix (kix_tup (K := K)) (pv 3) (pv 11) (fun _ _ => rfl)))) pa_nil))) (pg_name (i := 8) sc_law_machine_parts.nd rfl (Or.inl rfl))
        (pss_cons (ps_set (i := 9) sc_law_machine_parts.nd rfl (Or.inl rfl) (pe_callTy (kcall_tup (K := K)) (by rfl) Tx.b_tuple (by decide +kernel) (pa_cons (pe_lc (own := [("_law_desk", 11)]) (g := gName 11) (tt := tYes) rfl sc_law_machine_parts.nd (kpi_tup (K := K) (pv 6)) (blkOk_by (own := [("_law_desk", 11)]) (N := ["_law_dice_here", "_law_parts_here", "_law_most", "_law_many", "_law_kept", "_law_moves", "_law_lot", "_law_move", "_law_notes_here", "_law_later", "_law_tells", "_law_desk"]) (sc := (defScope s_law_machine_parts)) (by decide +kernel)) (fun _ _ _ _ _ => (pg_name (i := 11) sc_law_machine_parts.nd rfl (Or.inl rfl))) (fun _ _ _ _ _ => pts_nil) (fun _ _ _ _ _ => (pe_g G_law_draw (hr.mono (by decide)) (by rfl) (pa_cons (pv 0) (pa_cons (pe_ix (kix_tup (K := K)) (pv 3) (pv 11) (fun _ _ => rfl)) pa_nil))))) pa_nil)))
        (pss_one (ps_dput hu (pv 7) (pv 8) (pe_ifExp (pt_cmpR op_lt (pe_g G_law_draw (hr.mono (by decide)) (by rfl) (pa_cons (pv 0) (pa_cons pe_int pa_nil))) (pe_op op_sub (pv 4) pe_int) (nomark _)) (pv 8) (pv 9)) rfl))))
        (pss_one (ps_expr (kpe_bm (K := K) (pe_bm PySem.F.plainAttrs_list PySem.F.slot_list_append PySem.F.type_list_append mt_append (pv 5) (pa_cons (pv 7) pa_nil))))))))
        (pss_cons (ps_set (i := 10) sc_law_machine_parts.nd rfl (Or.inl rfl) pe_dnewT)
        (pss_cons (ps_for PassesOwn.never rfl (kpi_list (K := K) (pe_g G_law_all_notes (hr.mono (by decide)) (by rfl) (pa_cons (pv 3) pa_nil))) (pg_name (i := 8) sc_law_machine_parts.nd rfl (Or.inl rfl))
        (pss_one (ps_dput hu (pv 10) (pv 8) (pe_g G_law_draw (hr.mono (by decide)) (by rfl) (pa_cons (pv 0) (pa_cons (pe_ix (kix_list (K := K)) (pe_lst (pa_cons pe_int (pa_cons pe_int (pa_cons pe_int pa_nil)))) (pe_op op_sub (pv 4) pe_int) (fun _ _ => rfl)) pa_nil))) rfl)))
        (pss_one (ps_ret (pe_tup (pa_cons (pv 3) (pa_cons (pe_callTy (kcall_tup (K := K)) (by rfl) Tx.b_tuple (by decide +kernel) (pa_cons (pv 5) pa_nil)) (pa_cons (pv 10) pa_nil)))))))))))))), ?_⟩
    have nD := hdi.d
    have nC := hdi.c
    have d1 := okO.d1
    have d4 := okO.d4
    have w10 := okO.w10
    refine ⟨fun σ H' => ∃ most : Nat, Sml dd most ∧ H' = H ∧ σ = [some (.ref d), some (.ref pa), some (.int (most : Int)), none, none, none, none, none, none, none, none, none], ?_, ?_⟩
    · refine ⟨_, rfl, pa, _, _, _, rfl, rfl, SqT.of hpa, at_of (j := 0) rfl rfl, _, _, rfl, rfl, _, rfl, ?_⟩
      by_cases h : (dd : Int) < 4
      · rw [decide_eq_true h]
        refine iteT ⟨3, ?_, rfl, rfl⟩
        unfold Sml; omega
      · rw [decide_eq_false h]
        refine iteF ⟨2, ?_, rfl, rfl⟩
        unfold Sml; omega
    rintro σ H0 ⟨most0, sm0, rfl, rfl⟩
    refine ⟨fun σ H' => ∃ most : Nat, Sml dd most ∧ Kp [d] H0 H' ∧ DiceAt H' d c ∧ σ = [some (.ref d), some (.ref pa), some (.int (most : Int)), none, none, none, none, none, none, none, none, none], ?_, ?_⟩
    · refine ⟨_, rfl, pa, _, _, _, rfl, rfl, SqT.of hpa, at_of (j := 0) rfl rfl, _, _, rfl, rfl, _, rfl, ?_⟩
      by_cases h : (dd : Int) < 3
      · rw [decide_eq_true h]
        refine iteT ⟨_, rfl, d, c, 3, rfl, hdi, by decide, by decide, fun n H1 hn k1 hd1 => ⟨rfl, _, rfl, ite2 ⟨6, ?_, k1, hd1, rfl⟩ ⟨most0, sm0, k1, hd1, rfl⟩⟩⟩
        unfold Sml; omega
      · rw [decide_eq_false h]
        exact iteF (iteF ⟨most0, sm0, Kp.refl, hdi, rfl⟩)
    rintro σ H1 ⟨most, sm, k1, hd1, rfl⟩
    have sm1 : 1 ≤ most ∧ most ≤ 6 := by unfold Sml at sm; omega
    refine r_asg ?_
    refine t_tupW (walk_range (lo := 0) (n := ((dd : Nat) : Int).toNat)) (ch := [d]) (H1 := H1) (fun R q => ⟨_, rfl, pa, _, _, _, rfl, rfl, SqT.of (k1.tup hpa), at_of (j := 0) rfl rfl, _, rfl, by omega, by omega, q⟩) (fun i ys H' => DiceAt H' d c ∧ ∃ ns, ys = vz ns ∧ ns.length = i ∧ ∀ m ∈ ns, 1 ≤ m ∧ m ≤ most) (fun x hx => by rw [List.mem_singleton.mp hx]; exact hd1.d) (by omega) (fun _ _ => trivial)
      (fun D hD => ⟨hd1.kp (ch := []) (Kp.new hD) (fun z => nomatch z) (fun z => nomatch z), [], rfl, rfl, (fun m hm => absurd hm List.not_mem_nil)⟩) ?_ ?_
    · rintro D i x H3 H2 ys QT QF hD hi k2 hys ⟨hd2, ns, rfl, hl, hm⟩ ⟨rfl, rfl⟩ qT qF
      refine ⟨rfl, r_yes ⟨_, rfl, _, rfl, d, c, most, rfl, hd2, sm1.1, by omega, fun m H4 hm4 k4 hd4 => ⟨_, _, rfl, rfl, ?_⟩⟩⟩
      have nDd : D ≠ d := fun e => by rw [e] at hD; exact hd1.d hD
      have nDc : D ≠ c := fun e => by rw [e] at hD; exact hd1.c hD
      have hy4 : H4 D = some (.lst (vz ns)) := k4.at hys (by simpa using nDd)
      refine qT _ _ k4 ⟨hd4.kp (ch := [D]) (Kp.refl.put List.mem_cons_self fun xs e => by rw [hy4] at e; cases e) (by simpa using Ne.symm nDd) (by simpa using Ne.symm nDc), ns ++ [1 + m], ?_, by rw [List.length_append, hl]; rfl, fun z hz => ?_⟩
      · rw [vz_append]
        show vz ns ++ [V.int (1 + (m : Int))] = vz ns ++ [V.int ((1 + m : Nat) : Int)]
        rw [Int.natCast_add]; rfl
      · rcases List.mem_append.mp hz with h | h
        · exact hm z h
        · rw [List.mem_singleton.mp h]; omega
    rintro D ys H2 a3 hD k2 hys hyl ⟨hd2, many, rfl, hmany, hmm⟩ ha3
    have ka : Kp [] H2 (upd H2 a3 (.tup (vz many))) := Kp.new ha3
    have k3 := (k1.trans k2).trans ka.any
    have hd3 := hd2.kp ka (fun z => nomatch z) (fun z => nomatch z)
    have t3 : T1 (upd H2 a3 (.tup (vz many))) (.ref a3) many := ⟨a3, rfl, upd_same⟩
    generalize upd H2 a3 (.tup (vz many)) = H3 at k3 hd3 t3
    have hml : many.length = dd := by omega
    have smAll : Sm many := by
      refine ⟨by omega, ?_⟩
      unfold Sml at sm
      rcases sm with ⟨a, b, e⟩ | ⟨a, e⟩ | ⟨a, e⟩
      · exact .inl ⟨by omega, fun m hm => by have := hmm m hm; omega⟩
      · exact .inr (.inl ⟨by omega, fun m hm => by have := hmm m hm; omega⟩)
      · exact .inr (.inr ⟨by omega, fun m hm => by have := hmm m hm; omega⟩)
    have six := smAll.six
    refine ⟨_, rfl, d, c, 3, rfl, hd3, by decide, by decide, fun kp H4 hkp k4 hd4 => ⟨_, _, rfl, rfl, Nat.zero_le _, fun l5 n5 => ?_⟩⟩
    have k34 := k3.trans k4
    have n5H : H0 l5 = none := k34.free _ n5
    have kl5 : Kp [] H4 (upd H4 l5 (.lst [])) := Kp.new n5
    have n5d : l5 ≠ d := fun e => nD (e ▸ n5H)
    have n5c : l5 ≠ c := fun e => nC (e ▸ n5H)
    have lotlt : ∀ {w : Nat}, w < ws.length → ∀ x ∈ lotOf ws w, x < many.length := fun hw x hx => by rw [hml]; exact (lotOf_ok okO hw).lt x hx
    have haw0 := haw
    refine ⟨_, rfl, pa, _, _, _, rfl, rfl, SqT.of ((k34.trans kl5.any).tup hpa), at_of (j := 1) rfl rfl, aw, rfl, ⟨_, SqT.of ((k34.trans kl5.any).tup haw)⟩, ?_⟩
    refine for_it (walk_tup (K := K) (a := aw) (xs := wsv)) (fun i σ H' => Kp [d] H0 H' ∧ DiceAt H' d c ∧ T1 H' (.ref a3) many ∧ (∃ mvs mv, H' l5 = some (.lst mvs) ∧ mvs.length = i ∧ (∀ (w : Nat) x, mvs[w]? = some x → MoveAt H' x (pick many (lotOf ws w)) (mv w)) ∧ (∀ w ns, w < i → Fit (pick many (lotOf ws w)) ns → Fit (pick many (lotOf ws w)) (mv w ns))) ∧
      ∃ x6 x7 x8 x9, σ = [some (.ref d), some (.ref pa), some (.int (most : Int)), some (.ref a3), some (.int (1 + (kp : Int))), some (.ref l5), x6, x7, x8, x9, none, none])
      ⟨k34.trans kl5.any, hd4.kp kl5 (fun z => nomatch z) (fun z => nomatch z), (t3.tk k4.tk).tk kl5.tk, ⟨[], fun _ ns => ns, upd_same, rfl, fun w x e => by simp at e, fun w ns h => by omega⟩, _, _, _, _, rfl⟩ (fun i σ H' hi q => SqT.of (q.1.tup haw)) ?_ ?_
    · rintro i x σ H6 H5 hi ⟨k5, hd5, t5, ⟨mvs, mv, hl5, hml5, hmv, hfit⟩, x6, x7, x8, x9, rfl⟩ ⟨rfl, hx⟩
      have hi2 : i < ws.length := by omega
      have w1 := lotOf_at hi2
      have lo := lotOf_ok okO hi2
      have ll := lot_len lo
      obtain ⟨al, rfl, hal⟩ := (hwx i _ _ hx w1).tk k5.tk
      refine fun p7 n7 => ?_
      have k7 : Kp [] H5 (upd H5 p7 (.dT [])) := Kp.new n7
      have n7H : H0 p7 = none := k5.free _ n7
      have n7d : p7 ≠ d := fun e => nD (e ▸ n7H)
      have n7c : p7 ≠ c := fun e => nC (e ▸ n7H)
      have n57 : l5 ≠ p7 := ne_of2 hl5 n7
      have hp7 : (upd H5 p7 (.dT [])) p7 = some (.dT []) := upd_same
      have hd7 := hd5.kp k7 (fun z => nomatch z) (fun z => nomatch z)
      have t7 := t5.tk k7.tk
      have hl7 := k7.get hl5
      have hal7 := k7.get hal
      have ko7 : ∀ {q kvs}, H5 q = some (.dT kvs) → q ≠ p7 := fun h => ne_of2 h n7
      generalize upd H5 p7 (.dT []) = H7 at k7 hp7 hd7 t7 hl7 hal7
      have smW : Sm (pick many (lotOf ws i)) := by
        have hpm := mem_pick (lotlt hi2)
        have h1 := List.length_pos_iff.mpr lo.ne
        refine ⟨by rw [pick_len]; omega, ?_⟩
        rcases smAll.few with ⟨a, b⟩ | ⟨a, b⟩ | ⟨a, b⟩
        · exact .inl ⟨by rw [pick_len]; omega, fun m hm => b m (hpm m hm)⟩
        · exact .inr (.inl ⟨by rw [pick_len]; omega, fun m hm => b m (hpm m hm)⟩)
        · exact .inr (.inr ⟨by rw [pick_len]; omega, fun m hm => b m (hpm m hm)⟩)
      have sixW := smW.six
      have p36 := smW.prod
      obtain ⟨a3', e3, ha3'⟩ := t7
      injection e3 with e3
      subst e3
      dsimp only [gName, tSeq]
      refine t_forC ?_
      refine t_lc (walk_tup (K := K) (a := al) (xs := vz (lotOf ws i))) (ch := []) (H1 := H7) (fun R q => ⟨_, rfl, al, rfl, ⟨_, SqT.of hal7⟩, q⟩) (fun _ j y _ => ∀ m, (pick many (lotOf ws i))[j]? = some m → y = .int (m : Nat)) no_ch (by rw [vz_len]; omega) (fun H8 k8 => SqT.of (k8.tup hal7)) yk_at (fun _ _ _ _ _ _ e => e) ?_ ?_
      · rintro D2 j x H9 H8 Q' hD2 hj k8 ⟨rfl, hx8⟩ q
        obtain ⟨n, hn, rfl⟩ := vz_of hx8
        have hn2 := lotlt hi2 n (List.mem_of_getElem? hn)
        refine ⟨rfl, _, rfl, _, rfl, a3, _, _, _, rfl, rfl, SqT.of (k8.tup ha3'), at_of rfl (vz_some (get_of (d := 0) hn2)), q _ _ Kp.refl fun m e => ?_⟩
        rw [pick_at hn] at e
        injection e with e
        rw [e]
      intro D2 zs H8 hD2 k8 hz hzl hzx
      rw [vz_len] at hzl
      have ez : zs = vz (pick many (lotOf ws i)) := vz_eq (by rw [pick_len]; exact hzl) fun j v m e1 e2 => hzx j v e1 m e2
      subst ez
      refine ⟨D2, _, rfl, .inl hz, sixW.1, sixW.2, fun l H9 k9 nl hlt => ?_⟩
      obtain ⟨ks, hl, hkl, hkx⟩ := hlt
      rw [len_allN] at hkl
      have k79 := k8.trans k9
      have nl7 : H7 l = none := k8.free _ nl
      have nld : l ≠ d := fun e => hd7.d (e ▸ nl7)
      have nlp : l ≠ p7 := ne_of2' hp7 nl7
      have hp9 := k79.get hp7
      have hd9 := hd7.kp k79 (fun z => nomatch z) (fun z => nomatch z)
      have k09 := (k5.trans k7.any).trans k79.any
      refine ⟨l, rfl, ⟨_, SqL.of hl⟩, ?_⟩
      refine for_it (walk_list (K := K) (a := l) (xs := ks)) (fun j σ H' => Kp [d, p7] H9 H' ∧ DiceAt H' d c ∧ (∃ f : List Nat → List Nat, (∀ ns, Fit (pick many (lotOf ws i)) ns → Fit (pick many (lotOf ws i)) (f ns)) ∧ DictAt H' (.ref p7) ((allN (pick many (lotOf ws i))).take j) (fun y k => T1 H' y (f k))) ∧
        ∃ x8 x9, σ = [some (.ref d), some (.ref pa), some (.int (most : Int)), some (.ref a3), some (.int (1 + (kp : Int))), some (.ref l5), some (.ref al), some (.ref p7), x8, x9, none, none])
        ⟨Kp.refl, hd9, ⟨id, fun ns h => h, DictAt.nil hp9⟩, _, _, rfl⟩ (fun j σ H' hj q => SqL.of (q.1.at hl (by simp [nld, nlp]))) ?_ ?_
      · rintro j x σ H11 H10 hj ⟨k10, hd10, ⟨f, hf, hda⟩, z8, z9, rfl⟩ ⟨rfl, hx10⟩
        have ej : (allN (pick many (lotOf ws i)))[j]? = some ((allN (pick many (lotOf ws i)))[j]'(by rw [len_allN]; omega)) := List.getElem?_eq_getElem _
        generalize (allN (pick many (lotOf ws i)))[j]'(by rw [len_allN]; omega) = key at ej
        obtain ⟨b, rfl, hb⟩ := (hkx j x _ hx10 ej).tk k10.tk
        have fitk := mem_allN.mp (List.mem_of_getElem? ej)
        have ha10 := k10.tup (k79.tup ha3')
        have hal10 := k10.tup (k79.tup hal7)
        refine t_tupW (walk_tup (K := K) (a := al) (xs := vz (lotOf ws i))) (ch := [d]) (H1 := H10) (fun R q => ⟨_, rfl, al, rfl, ⟨_, SqT.of hal10⟩, q⟩) (fun q ys H' => DiceAt H' d c ∧ ∃ ns, ys = vz ns ∧ ns.length = q ∧ ∀ (u a m : Nat), ns[u]? = some a → (pick many (lotOf ws i))[u]? = some m → a < m) (fun x hx => by rw [List.mem_singleton.mp hx]; exact hd10.d) (by rw [vz_len]; omega) (fun H11 k11 => SqT.of (k11.tup hal10))
          (fun D hD => ⟨hd10.kp (ch := []) (Kp.new hD) (fun z => nomatch z) (fun z => nomatch z), [], rfl, rfl, (fun u a m e => by simp at e)⟩) ?_ ?_
        · rintro D q x H12 H11 ys QT QF hD hq k11 hys ⟨hd11, ns, rfl, hl11, hm11⟩ ⟨rfl, hx11⟩ qT qF
          obtain ⟨n, hn, rfl⟩ := vz_of hx11
          have hn2 := lotlt hi2 n (List.mem_of_getElem? hn)
          have mem1 := hmm _ (List.mem_of_getElem? (get_of (d := 0) hn2))
          refine ⟨rfl, r_yes ⟨_, rfl, _, rfl, _, rfl, a3, _, _, _, rfl, rfl, SqT.of (k11.tup ha10), at_of rfl (vz_some (get_of (d := 0) hn2)), d, c, _, rfl, hd11, mem1.1, by omega, fun m H12 hm12 k12 hd12 => ?_⟩⟩
          have nDd : D ≠ d := fun e => by rw [e] at hD; exact hd10.d hD
          have nDc : D ≠ c := fun e => by rw [e] at hD; exact hd10.c hD
          have hy12 : H12 D = some (.lst (vz ns)) := k12.at hys (by simpa using nDd)
          refine qT _ _ k12 ⟨hd12.kp (ch := [D]) (Kp.refl.put List.mem_cons_self fun xs e => by rw [hy12] at e; cases e) (by simpa using Ne.symm nDd) (by simpa using Ne.symm nDc), ns ++ [m], by rw [vz_append]; rfl, by rw [List.length_append, hl11]; rfl, fun u a m' e1 e2 => ?_⟩
          by_cases hu : u < ns.length
          · rw [List.getElem?_append_left hu] at e1
            exact hm11 u a m' e1 e2
          · rw [List.getElem?_append_right (by omega)] at e1
            have h0 : u - ns.length = 0 := by
              have := (List.getElem?_eq_some_iff.mp e1).1
              simp at this
              omega
            rw [h0] at e1
            injection e1 with e1
            subst e1
            have eu : u = q := by omega
            subst eu
            rw [pick_at hn] at e2
            injection e2 with e2
            rw [← e2]
            exact hm12
        · rintro D ys H11 p9 hD k11 hys hyl ⟨hd11, later, rfl, hlat, hlm⟩ hp9'
          have fitl : Fit (pick many (lotOf ws i)) later := ⟨by rw [pick_len, hlat, vz_len], hlm⟩
          have kp9 : Kp [] H11 (upd H11 p9 (.tup (vz later))) := Kp.new hp9'
          have k12 := k11.trans kp9.any
          have hd12 := hd11.kp kp9 (fun z => nomatch z) (fun z => nomatch z)
          have hl12 : (upd H11 p9 (.tup (vz later))) p9 = some (.tup (vz later)) := upd_same
          generalize upd H11 p9 (.tup (vz later)) = H12 at k12 hd12 hl12
          have hb12 := k12.tup hb
          refine ⟨_, rfl, d, c, 6, rfl, hd12, by decide, by decide, fun n H13 hn k13 hd13 => ⟨_, rfl, _, _, rfl, rfl, _, _, rfl, rfl, _, rfl, ?_⟩⟩
          have k1013 := k12.trans k13
          have hb13 := k13.tup hb12
          have nkk : key ∉ (allN (pick many (lotOf ws i))).take j := not_take (nodup_allN _) ej
          have hda13 : DictAt H13 (.ref p7) ((allN (pick many (lotOf ws i))).take j) (fun y k => T1 H13 y (f k)) := by
            obtain ⟨p, kvs, e, hp, h2, h3⟩ := hda
            injection e with e
            subst e
            exact ⟨p7, kvs, rfl, k1013.at hp (by simpa using n7d), h2, fun q hq => let ⟨y, e, r⟩ := h3 q hq; ⟨y, e, T1.tk k1013.tk r⟩⟩
          have fin : ∀ {v : V} {val : List Nat}, T1 H13 v val → Fit (pick many (lotOf ws i)) val → ∃ o, DPut H13 p7 (.ref b) v (upd H13 p7 (.dT o)) ∧ (Kp [d, p7] H9 (upd H13 p7 (.dT o)) ∧ DiceAt (upd H13 p7 (.dT o)) d c ∧ (∃ f : List Nat → List Nat, (∀ ns, Fit (pick many (lotOf ws i)) ns → Fit (pick many (lotOf ws i)) (f ns)) ∧ DictAt (upd H13 p7 (.dT o)) (.ref p7) ((allN (pick many (lotOf ws i))).take (j + 1)) (fun y k => T1 (upd H13 p7 (.dT o)) y (f k)))) := by
            intro v val tv fv
            obtain ⟨kvs13, hp13⟩ : ∃ kvs, H13 p7 = some (.dT kvs) := by
              obtain ⟨p, kvs, e, hp, _⟩ := hda13
              injection e with e
              subst e
              exact ⟨kvs, hp⟩
            have nt : ∀ xs, H13 p7 ≠ some (.tup xs) := fun xs e => by rw [hp13] at e; cases e
            obtain ⟨o, dp, hd14⟩ := hda13.put (R' := fun y k => T1 (upd H13 p7 (.dT kvs13)) y (if k = key then val else f k)) (v := v) nkk hb13 (by rw [List.length_take]; exact size_lt (by omega)) (fun y q hq r => by
              show T1 _ y (if q = key then val else f q)
              rw [if_neg (fun e : q = key => nkk (e ▸ hq))]
              exact T1.tk (Tk.put nt) r) (by
              show T1 _ v (if key = key then val else f key)
              rw [if_pos rfl]
              exact tv.tk (Tk.put nt))
            have kq : Kp [p7] H13 (upd H13 p7 (.dT o)) := Kp.refl.put List.mem_cons_self nt
            refine ⟨o, dp, (k10.trans (k1013.mono (by simp))).trans (kq.mono (by simp)), hd13.kp kq (by simpa using Ne.symm n7d) (by simpa using Ne.symm n7c), fun k => if k = key then val else f k, fun ns h => ?_, ?_⟩
            · dsimp only
              split
              · exact fv
              · exact hf ns h
            · rw [List.take_add_one, ej, Option.toList_some]
              obtain ⟨p, kvs, e, hp, h2, h3⟩ := hd14
              exact ⟨p, kvs, e, hp, h2, fun q hq => let ⟨y, e, r⟩ := h3 q hq; ⟨y, e, by
                obtain ⟨a, ea, ha⟩ := r
                refine ⟨a, ea, ?_⟩
                by_cases hap : a = p7
                · rw [hap, upd_same] at ha; cases ha
                · rw [upd_ne hap] at ha ⊢; exact ha⟩⟩
          refine ite2 ⟨_, rfl, _, rfl, _, rfl, p7, ?_⟩ ⟨_, rfl, _, rfl, _, rfl, p7, ?_⟩
          · obtain ⟨o, dp, g1, g2, g3⟩ := fin ⟨b, rfl, hb13⟩ fitk
            exact ⟨_, rfl, dp, g1, g2, g3, _, _, rfl⟩
          · obtain ⟨o, dp, g1, g2, g3⟩ := fin ⟨p9, rfl, k13.tup hl12⟩ fitl
            exact ⟨_, rfl, dp, g1, g2, g3, _, _, rfl⟩
      · rintro σ H10 ⟨k10, hd10, ⟨f, hf, hda⟩, z8, z9, rfl⟩
        rw [hkl, ← len_allN, List.take_length] at hda
        have n5dp : l5 ∉ [d, p7] := by simp [n5d, n57]
        have hl10 := k10.at (k79.get hl7) n5dp
        have h5 : Tk H5 H10 := (k7.tk.trans k79.tk).trans k10.tk
        have tq : Tk H10 (upd H10 l5 (.lst (mvs ++ [.ref p7]))) := Tk.put fun xs e => by rw [hl10] at e; cases e
        have kq : Kp [l5] H10 (upd H10 l5 (.lst (mvs ++ [.ref p7]))) := Kp.refl.put List.mem_cons_self fun xs e => by rw [hl10] at e; cases e
        have kall : Kp [d] H0 (upd H10 l5 (.lst (mvs ++ [.ref p7]))) := by
          refine Kp.mut ?_ n5H
          refine ⟨fun a o e n => ?_, fun a e => k09.free a (k10.free a e)⟩
          by_cases had : a = d
          · rcases n with n | ⟨xs, n⟩
            · exact absurd (by simp [had]) n
            · subst n; exact k10.tup (k09.tup e)
          · exact k10.at (k09.at e (by simpa using had)) (by simp [had, ne_of2 e n7H])
        have ndl : NoD [l5] H10 := fun q kvs e m => by rw [List.mem_singleton.mp m, hl10] at e; cases e
        refine ⟨_, rfl, .inl ⟨rfl, mvs, SqL.of hl10⟩, _, rfl, l5, mvs, _, rfl, rfl, hl10, size_lt (by omega), kall, hd10.kp kq (by simpa using Ne.symm n5d) (by simpa using Ne.symm n5c), (t5.tk h5).tk tq, ⟨mvs ++ [.ref p7], fun w => if w = i then f else mv w, upd_same, by rw [List.length_append, hml5]; rfl, fun w x e => ?_, fun w ns hw h => ?_⟩, _, _, _, _, rfl⟩
        · by_cases hw : w < mvs.length
          · rw [List.getElem?_append_left hw] at e
            dsimp only
            rw [if_neg (by omega)]
            have m5 := hmv w x e
            have m9 : MoveAt H9 x (pick many (lotOf ws w)) (mv w) := (m5.kp k7 NoD.nil).kp k79 NoD.nil
            have m10 := MoveAt.at k10 m9 (fun p kvs ex hp => by
              obtain ⟨p', kvs', ex', hp', _⟩ := m5
              rw [ex] at ex'
              injection ex' with ex'
              subst ex'
              have e1 : p ≠ p7 := ko7 hp'
              have e2 : p ≠ d := fun e => by
                subst e
                obtain ⟨i1, k1, p1, j1, cells, q1, _⟩ := hd5
                rw [q1] at hp'
                cases hp'
              simp [e1, e2])
            exact m10.kp kq ndl
          · rw [List.getElem?_append_right (by omega)] at e
            have h0 : w - mvs.length = 0 := by
              have := (List.getElem?_eq_some_iff.mp e).1
              simp at this
              omega
            rw [h0] at e
            injection e with e
            subst e
            have ew : w = i := by omega
            subst ew
            dsimp only
            rw [if_pos rfl]
            exact MoveAt.kp kq ndl hda
        · dsimp only
          split
          · rename_i ew
            subst ew
            exact hf ns h
          · exact hfit w ns (by omega) h
    · rintro σ H5 ⟨k5, hd5, t5, ⟨mvs, mv, hl5, hml5, hmv, hfit⟩, x6, x7, x8, x9, rfl⟩
      refine fun p7 n7 => ?_
      have k7 : Kp [] H5 (upd H5 p7 (.dT [])) := Kp.new n7
      have n7H : H0 p7 = none := k5.free _ n7
      have n7d : p7 ≠ d := fun e => nD (e ▸ n7H)
      have n7c : p7 ≠ c := fun e => nC (e ▸ n7H)
      have n57 : l5 ≠ p7 := ne_of2 hl5 n7
      have hp7 : (upd H5 p7 (.dT [])) p7 = some (.dT []) := upd_same
      have hd7 := hd5.kp k7 (fun z => nomatch z) (fun z => nomatch z)
      have t7 := t5.tk k7.tk
      have hl7 := k7.get hl5
      have ko7 : ∀ {q kvs}, H5 q = some (.dT kvs) → q ≠ p7 := fun h => ne_of2 h n7
      generalize upd H5 p7 (.dT []) = H7 at k7 hp7 hd7 t7 hl7
      have p36 := smAll.prod
      obtain ⟨a3', e3, ha3'⟩ := t7
      injection e3 with e3
      subst e3
      refine ⟨_, rfl, a3, many, rfl, .inr ha3', six.1, six.2, fun l H9 k79 nl7 hlt => ?_⟩
      obtain ⟨ks, hl, hkl, hkx⟩ := hlt
      rw [len_allN] at hkl
      have nld : l ≠ d := fun e => hd7.d (e ▸ nl7)
      have nlp : l ≠ p7 := ne_of2' hp7 nl7
      have hp9 := k79.get hp7
      have hd9 := hd7.kp k79 (fun z => nomatch z) (fun z => nomatch z)
      have k09 := (k5.trans k7.any).trans k79.any
      obtain ⟨smax, esm, sm1', sm10⟩ := pick_some kp hkp
      refine ⟨l, rfl, ⟨_, SqL.of hl⟩, ?_⟩
      refine for_it (walk_list (K := K) (a := l) (xs := ks)) (fun j σ H' => Kp [d, p7] H9 H' ∧ DiceAt H' d c ∧ (∃ f : List Nat → Nat, (∀ ns, f ns ≤ 9) ∧ DictAt H' (.ref p7) ((allN many).take j) (fun y k => y = .int (f k : Nat))) ∧
        ∃ x8, σ = [some (.ref d), some (.ref pa), some (.int (most : Int)), some (.ref a3), some (.int (1 + (kp : Int))), some (.ref l5), x6, x7, x8, x9, some (.ref p7), none])
        ⟨Kp.refl, hd9, ⟨fun _ => 0, fun _ => Nat.zero_le _, DictAt.nil hp9⟩, _, rfl⟩ (fun j σ H' hj q => SqL.of (q.1.at hl (by simp [nld, nlp]))) ?_ ?_
      · rintro j x σ H11 H10 hj ⟨k10, hd10, ⟨f, hf, hda⟩, z8, rfl⟩ ⟨rfl, hx10⟩
        have ej : (allN many)[j]? = some ((allN many)[j]'(by rw [len_allN]; omega)) := List.getElem?_eq_getElem _
        generalize (allN many)[j]'(by rw [len_allN]; omega) = key at ej
        obtain ⟨b, rfl, hb⟩ := (hkx j x _ hx10 ej).tk k10.tk
        refine ⟨_, rfl, three_le, fun lp nlp' => ?_⟩
        have kl : Kp [] H10 (upd H10 lp (.lst [.int 2, .int 3, .int 10])) := Kp.new nlp'
        refine ⟨_, rfl, _, _, rfl, rfl, lp, _, _, _, rfl, rfl, SqL.of upd_same, at_of (j := kp) (by omega) esm, d, c, smax, rfl, hd10.kp kl (fun z => nomatch z) (fun z => nomatch z), sm1', by omega, fun n H13 hn k13 hd13 => ?_⟩
        have k1013 := kl.any.trans k13
        have hb13 := k1013.tup hb
        have nkk : key ∉ (allN many).take j := not_take (nodup_allN _) ej
        have hda13 : DictAt H13 (.ref p7) ((allN many).take j) (fun y k => y = .int (f k : Nat)) := by
          obtain ⟨p, kvs, e, hp, h2, h3⟩ := hda
          injection e with e
          subst e
          exact ⟨p7, kvs, rfl, k1013.at hp (by simpa using n7d), h2, h3⟩
        obtain ⟨kvs13, hp13⟩ : ∃ kvs, H13 p7 = some (.dT kvs) := by
          obtain ⟨p, kvs, e, hp, _⟩ := hda13
          injection e with e
          subst e
          exact ⟨kvs, hp⟩
        have nt : ∀ xs, H13 p7 ≠ some (.tup xs) := fun xs e => by rw [hp13] at e; cases e
        obtain ⟨o, dp, hd14⟩ := hda13.put (R' := fun y k => y = .int ((if k = key then n else f k : Nat) : Int)) (v := .int (n : Int)) nkk hb13 (by rw [List.length_take]; exact size_lt (by omega)) (fun y q hq r => by
          show y = .int ((if q = key then n else f q : Nat) : Int)
          rw [if_neg (fun e : q = key => nkk (e ▸ hq))]
          exact r) (by
          show V.int (n : Int) = .int ((if key = key then n else f key : Nat) : Int)
          rw [if_pos rfl])
        have kq : Kp [p7] H13 (upd H13 p7 (.dT o)) := Kp.refl.put List.mem_cons_self nt
        refine ⟨_, rfl, _, rfl, p7, _, rfl, dp, (k10.trans (k1013.mono (by simp))).trans (kq.mono (by simp)), hd13.kp kq (by simpa using Ne.symm n7d) (by simpa using Ne.symm n7c), ⟨fun k => if k = key then n else f k, fun ns => ?_, ?_⟩, _, rfl⟩
        · dsimp only
          split
          · omega
          · exact hf ns
        · rw [List.take_add_one, ej, Option.toList_some]
          exact hd14
      · rintro σ H10 ⟨k10, hd10, ⟨f, hf, hda⟩, z8, rfl⟩
        rw [hkl, ← len_allN, List.take_length] at hda
        have n5dp : l5 ∉ [d, p7] := by simp [n5d, n57]
        have hl10 := k10.at (k79.get hl7) n5dp
        refine ⟨_, rfl, _, rfl, l5, mvs, rfl, .inl ⟨SqL.of hl10, fun am nam => ⟨_, rfl, three_le, fun r nr => ?_⟩⟩⟩
        have kam : Kp [] H10 (upd H10 am (.tup mvs)) := Kp.new nam
        have kr : Kp [] (upd H10 am (.tup mvs)) (upd (upd H10 am (.tup mvs)) r (.tup [.ref a3, .ref am, .ref p7])) := Kp.new nr
        have kf := kam.trans kr
        have kall : Kp [d] H0 H10 := by
          refine ⟨fun a o e n => ?_, fun a e => k09.free a (k10.free a e)⟩
          by_cases had : a = d
          · rcases n with n | ⟨xs, n⟩
            · exact absurd (by simp [had]) n
            · subst n; exact k10.tup (k09.tup e)
          · exact k10.at (k09.at e (by simpa using had)) (by simp [had, ne_of2 e n7H])
        refine k _ ⟨dd, ws, many, mv, f⟩ _ (kall.trans kf.any) (hd10.kp kf (fun z => nomatch z) (fun z => nomatch z)) ⟨okO, hml, fun m hm => ⟨(hmm m hm).1, Nat.le_trans (hmm m hm).2 sm1.2⟩, ?_, fun w ns hw h => hfit w ns (by rw [hwl]; exact hw) h, fun ns _ => hf ns⟩ rfl rfl
          ⟨r, .ref a3, .ref am, .ref p7, rfl, upd_same, ⟨a3, rfl, kf.tup (k10.tup (k79.tup ha3'))⟩, ⟨am, mvs, rfl, kr.get upd_same, by rw [hml5, hwl], fun w x e => ?_⟩, DictAt.kp kf NoD.nil (fun y q r => r) hda⟩
        · show dd ≤ 2 ∨ (dd = 3 ∧ ∀ m ∈ many, m ≤ 3) ∨ (dd = 4 ∧ ∀ m ∈ many, m ≤ 2)
          unfold Sml at sm
          rcases sm with ⟨a, b, e⟩ | ⟨a, e⟩ | ⟨a, e⟩
          · exact .inl a
          · exact .inr (.inl ⟨a, fun m hm => by have := hmm m hm; omega⟩)
          · exact .inr (.inr ⟨a, fun m hm => by have := hmm m hm; omega⟩)
        · have m5 := hmv w x e
          have m9 : MoveAt H9 x (pick many (lotOf ws w)) (mv w) := (m5.kp k7 NoD.nil).kp k79 NoD.nil
          have m10 := MoveAt.at k10 m9 (fun p kvs ex hp => by
            obtain ⟨p', kvs', ex', hp', _⟩ := m5
            rw [ex] at ex'
            injection ex' with ex'
            subst ex'
            have e1 : p ≠ p7 := ko7 hp'
            have e2 : p ≠ d := fun e => by
              subst e
              obtain ⟨i1, k1, p1, j1, cells, q1, _⟩ := hd5
              rw [q1] at hp'
              cases hp'
            simp [e1, e2])
          exact m10.kp kf NoD.nil

abbrev s_law_machine : Stmt := top 62
theorem sc_law_machine : FnScope ["_law_office", "_law_machine_here"] ["_law_office", "_law_machine_here"] (defScope s_law_machine) := ⟨rfl, rfl, rfl, by decide +kernel, rfl, by decide +kernel, by decide +kernel⟩
theorem ok_law_machine {f : Addr} {fd : FuncData} (F : Fun K "_law_machine" "_law_machine" s_law_machine f fd) (Tx : Txt mg) (fM : FM K CMachine) (C_Machine : Gc P w K mg base "Machine" CMachine ["self", "office", "many", "moves", "tells"] 6 (sp_Machine_init K COffice CMachine)) : FnOk P w K mg base CX0 8 f fd ["_law_office", "_law_machine_here"] (sp_law_machine K COffice CMachine) := by
  refine F.ok sc_law_machine (fun vs H Q E h => ?_) (fun cdv A outer s H vs Q E hr h => ?_)
  · obtain ⟨o, v, M, rfl, ho, ⟨a, v1, v2, v3, rfl, ha, h1, h2, h3⟩, ok, k⟩ := h
    rfl
  · obtain ⟨o, v, M, rfl, ho, ⟨a, v1, v2, v3, rfl, ha, h1, h2, h3⟩, ok, k⟩ := h
    refine ⟨_, (pss_one (ps_ret (pe_c C_Machine (hr.mono (by decide)) (by rfl) (pa_cons (pv 0) (pa_cons (pe_ix (kix_tup (K := K)) (pv 1) pe_int (fun _ _ => rfl)) (pa_cons (pe_ix (kix_tup (K := K)) (pv 1) pe_int (fun _ _ => rfl)) (pa_cons (pe_ix (kix_tup (K := K)) (pv 1) pe_int (fun _ _ => rfl)) pa_nil))))))), ?_⟩
    refine ⟨_, rfl, _, rfl, a, _, _, _, rfl, rfl, SqT.of ha, at_of (j := 0) rfl rfl, _, rfl, a, _, _, _, rfl, rfl, SqT.of ha, at_of (j := 1) rfl rfl, _, rfl, a, _, _, _, rfl, rfl, SqT.of ha, at_of (j := 2) rfl rfl, ?_⟩
    intro x dx nx ndx hne
    have kx : Kp [] H (upd (upd H dx (.own x)) x (.ins CMachine dx [])) := (Kp.new ndx).new' (by rw [upd_ne (Ne.symm hne)]; exact nx)
    refine ⟨x, dx, o, v1, v2, v3, M, rfl, fM, upd_same, ho.kp kx (fun z => nomatch z), T1.tk kx.tk h1, h2.kp kx NoD.nil, h3.kp kx NoD.nil, ok, fun H1 k1 hm => ⟨rfl, k x H1 ⟨fun a o e n => ?_, fun a e => kx.free a (k1.free a e)⟩ hm⟩⟩
    have ne : a ≠ x := ne_of2 e nx
    exact k1.at (kx.get e) (by simpa using ne)

abbrev s_law_moved : Stmt := top 63
theorem sc_law_moved : FnScope ["_law_parts_here", "_law_machine_here", "_law_notes_here", "_law_work", "_law_lot", "_law_desk", "_law_later", "_law_found", "_law_item"] ["_law_parts_here", "_law_machine_here", "_law_notes_here", "_law_work"] (defScope s_law_moved) := ⟨rfl, rfl, rfl, by decide +kernel, rfl, by decide +kernel, by decide +kernel⟩
theorem ok_law_moved {f : Addr} {fd : FuncData} (F : Fun K "_law_moved" "_law_moved" s_law_moved f fd) (Tx : Txt mg)  : FnOk P w K mg base CX0 1 f fd ["_law_parts_here", "_law_machine_here", "_law_notes_here", "_law_work"] sp_law_moved := by
  refine F.ok sc_law_moved (fun vs H Q E h => ?_) (fun cdv A outer s H vs Q E hr h => ?_)
  · obtain ⟨v1, v2, v3, M, ns, i, rfl, ⟨pa, pw, rfl, hpa, hpv⟩, ⟨ma, mv1, mv2, mv3, rfl, hma, hm1, hm2, hm3⟩, ok, ⟨b, rfl, hb⟩, f, hi, k⟩ := h
    rfl
  · obtain ⟨v1, v2, v3, M, ns, i, rfl, ⟨pa, pw, rfl, hpa, hpv⟩, ⟨ma, mv1, mv2, mv3, rfl, hma, hm1, hm2, hm3⟩, ok, ⟨b, rfl, hb⟩, f, hi, k⟩ := h
    have hu := hu_of hr
    refine ⟨_, (pss_cons (ps_set (i := 4) sc_law_moved.nd rfl (Or.inl rfl) (pe_ix (kix_tup (K := K)) (pe_ix (kix_tup (K := K)) (pv 0) pe_int (fun _ _ => rfl)) (pv 3) (fun _ _ => rfl)))
        (pss_cons (ps_set (i := 6) sc_law_moved.nd rfl (Or.inl rfl) (pe_dget hu (pe_ix (kix_tup (K := K)) (pe_ix (kix_tup (K := K)) (pv 1) pe_int (fun _ _ => rfl)) (pv 3) (fun _ _ => rfl)) (pe_callTy (kcall_tup (K := K)) (by rfl) Tx.b_tuple (by decide +kernel) (pa_cons (pe_lc (own := [("_law_desk", 5)]) (g := gName 5) (tt := tYes) rfl sc_law_moved.nd (kpi_tup (K := K) (pv 4)) (blkOk_by (own := [("_law_desk", 5)]) (N := ["_law_parts_here", "_law_machine_here", "_law_notes_here", "_law_work", "_law_lot", "_law_desk", "_law_later", "_law_found", "_law_item"]) (sc := (defScope s_law_moved)) (by decide +kernel)) (fun _ _ _ _ _ => (pg_name (i := 5) sc_law_moved.nd rfl (Or.inl rfl))) (fun _ _ _ _ _ => pts_nil) (fun _ _ _ _ _ => (pe_ix (kix_tup (K := K)) (pv 2) (pv 5) (fun _ _ => rfl)))) pa_nil)) (fun _ _ => rfl)))
        (pss_cons (ps_set (i := 7) sc_law_moved.nd rfl (Or.inl rfl) (pe_callTy (kcall_lst (K := K)) (by rfl) Tx.b_list (by decide +kernel) (pa_cons (pv 2) pa_nil)))
        (pss_cons (ps_for PassesOwn.never rfl (kpi_zip (K := K) (by rfl) Tx.b_zip (pa_cons (pv 4) (pa_cons (pv 6) pa_nil))) (kpg_tup (K := K) rfl (pgs_cons (pg_name (i := 5) sc_law_moved.nd rfl (Or.inl rfl)) (pgs_cons (pg_name (i := 8) sc_law_moved.nd rfl (Or.inl rfl)) pgs_nil)))
        (pss_one (ps_asg (pv 8) (pg_sub (pv 7) (pv 5) set_list))))
        (pss_one (ps_ret (pe_callTy (kcall_tup (K := K)) (by rfl) Tx.b_tuple (by decide +kernel) (pa_cons (pv 7) pa_nil)))))))), ?_⟩
    obtain ⟨aw, wsv, rfl, haw, hwl, hwx⟩ := hpv
    obtain ⟨am, mvs, rfl, ham, hml, hmx⟩ := hm2
    have w1 := lotOf_at hi
    have hwi : wsv[i]? = some wsv[i] := List.getElem?_eq_getElem (by omega)
    obtain ⟨al, hal, hlot⟩ := hwx i _ _ hwi w1
    have hmi : mvs[i]? = some mvs[i] := List.getElem?_eq_getElem (by omega)
    have hmv := hmx i _ hmi
    have lo := lotOf_ok ok.off hi
    have l10 := lot_ten ok.off _ (List.mem_of_getElem? w1)
    refine ⟨_, rfl, pa, _, _, _, rfl, rfl, SqT.of hpa, at_of (j := 1) rfl rfl, _, rfl, aw, _, _, _, rfl, rfl, SqT.of haw, at_of rfl hwi, ?_⟩
    rw [hal]
    refine ⟨_, rfl, ma, _, _, _, rfl, rfl, SqT.of hma, at_of (j := 1) rfl rfl, _, rfl, am, _, _, _, rfl, rfl, SqT.of ham, at_of rfl hmi, ?_⟩
    refine t_tup1 (walk_tup (K := K) (a := al) (xs := vz (lotOf M.ws i))) (ch := []) (H1 := H) (fun R q => ⟨_, rfl, al, rfl, ⟨_, SqT.of hlot⟩, q⟩) (pick ns (lotOf M.ws i)) (by rw [vz_len, pick_len]) no_ch (by rw [vz_len]; omega) (fun H1 k1 => SqT.of (k1.tup hlot)) yk_at ?_ ?_
    · rintro j x1 x H2 H1 Q' hj hm1 k1 ⟨rfl, hx1⟩ q
      obtain ⟨n, hn, rfl⟩ := vz_of hx1
      have h2 : n < ns.length := by rw [f.1]; exact ok.lt hi n (List.mem_of_getElem? hn)
      have e1 := pick_at (ns := ns) hn
      rw [hm1] at e1
      injection e1 with e1
      exact ⟨rfl, _, rfl, _, rfl, _, _, _, _, rfl, rfl, SqT.of (k1.tup hb), at_of rfl (vz_some (by rw [e1]; exact get_of h2)), q _ Kp.refl⟩
    rintro v H1 k1 ⟨kb, rfl, hkb⟩
    obtain ⟨p, y, ep, dg, hy⟩ := (hmv.kp k1 NoD.nil).get (mem_allN.mpr (ok.pickFit hi f)) hkb
    refine ⟨p, y, ep, dg, ?_⟩
    obtain ⟨lb, rfl, hlb⟩ := hy
    have ft := ok.mv i _ hi (ok.pickFit hi f)
    have fl : (M.mv i (pick ns (lotOf M.ws i))).length = (lotOf M.ws i).length := by rw [ft.1]; exact pick_len ..
    refine ⟨_, rfl, b, _, rfl, .inr (SqT.of (k1.tup hb)), fun l hl => ?_⟩
    have nl : H l = none := k1.free l hl
    have k2 : Kp [] H (upd H1 l (.lst (vz ns))) := k1.mut nl
    have hlot2 := k2.tup hlot
    have hlb2 : (upd H1 l (.lst (vz ns))) lb = some (.tup (vz (M.mv i (pick ns (lotOf M.ws i))))) := by rw [upd_ne (ne_of2 hlb hl)]; exact hlb
    have nlb : lb ≠ l := ne_of2 hlb hl
    have nal : al ≠ l := ne_of2 hlot nl
    refine ⟨_, rfl, _, rfl, al, lb, _, _, rfl, .inr ⟨SqT.of hlot2, SqT.of hlb2, ?_⟩⟩
    refine for_it (walk_zipTT (K := K) (a := al) (b := lb) (xs := vz (lotOf M.ws i)) (ys := vz (M.mv i (pick ns (lotOf M.ws i)))) (n := (lotOf M.ws i).length) (by rw [vz_len, vz_len, fl]; omega))
      (fun j σ H' => Kp [] H H' ∧ H' lb = some (.tup (vz (M.mv i (pick ns (lotOf M.ws i))))) ∧ H' l = some (.lst (vz (puts (((lotOf M.ws i).zip (M.mv i (pick ns (lotOf M.ws i)))).take j) ns))) ∧ ∃ x y, σ = [some (.ref pa), some (.ref ma), some (.ref b), some (.int (i : Int)), some (.ref al), x, some (.ref lb), some (.ref l), y]) ⟨k2, hlb2, upd_same, _, _, rfl⟩ (fun j σ H' hj q => ⟨SqT.of (q.1.tup hlot), SqT.of q.2.1⟩) ?_ ?_
    · rintro j x σ H3 H4 hj ⟨k3, hlb3, hl3, z1, z2, rfl⟩ ⟨T, x1, y1, rfl, hT, rfl, hx1, hy1⟩
      obtain ⟨n, hn, rfl⟩ := vz_of hx1
      obtain ⟨c, hc, rfl⟩ := vz_of hy1
      have h2 : n < ns.length := by rw [f.1]; exact ok.lt hi n (List.mem_of_getElem? hn)
      have ln : (vz (puts (((lotOf M.ws i).zip (M.mv i (pick ns (lotOf M.ws i)))).take j) ns)).length = ns.length := by rw [vz_len, puts_len]
      refine ⟨T, _, rfl, SqT.of upd_same, rfl, _, _, rfl, _, _, rfl, rfl, ?_⟩
      refine ⟨_, rfl, _, rfl, _, rfl, l, _, _, n, rfl, rfl, by rw [upd_ne (ne_of2 hl3 hT)]; exact hl3, by rw [ln]; exact set_at h2, ?_⟩
      refine ⟨(k3.new' hT).mut nl, by rw [upd_ne nlb, upd_ne (ne_of2 hlb3 hT)]; exact hlb3, ?_, _, _, rfl⟩
      rw [upd_same, List.take_add_one, show ((lotOf M.ws i).zip (M.mv i (pick ns (lotOf M.ws i))))[j]? = some (n, c) from by rw [List.getElem?_zip_eq_some]; exact ⟨hn, hc⟩, Option.toList_some, puts_snoc, vz_set]
    rintro σ H3 ⟨k3, hlb3, hl3, z1, z2, rfl⟩
    refine ⟨_, rfl, l, _, rfl, .inl ⟨SqL.of hl3, fun r hr2 => k _ _ (k3.new' hr2) ⟨r, rfl, ?_⟩⟩⟩
    rw [upd_same, List.take_of_length_le (by rw [List.length_zip, fl]; omega)]
    rfl

abbrev s_law_met : Stmt := top 65
theorem sc_law_met : FnScope ["_law_parts_here", "_law_machine_here", "_law_found", "_law_at", "_law_work", "_law_later"] ["_law_parts_here", "_law_machine_here"] (defScope s_law_met) := ⟨rfl, rfl, rfl, by decide +kernel, rfl, by decide +kernel, by decide +kernel⟩
theorem ok_law_met {f : Addr} {fd : FuncData} (F : Fun K "_law_met" "_law_met" s_law_met f fd) (Tx : Txt mg) (G_law_moved : Gf P w K mg base "_law_moved" ["_law_parts_here", "_law_machine_here", "_law_notes_here", "_law_work"] 1 sp_law_moved) : FnOk P w K mg base CX0 2 f fd ["_law_parts_here", "_law_machine_here"] sp_law_met := by
  refine F.ok sc_law_met (fun vs H Q E h => ?_) (fun cdv A outer s H vs Q E hr h => ?_)
  · obtain ⟨v1, v2, M, n, order, rfl, hP, hMa, ok, met, k⟩ := h
    rfl
  · obtain ⟨v1, v2, M, n, order, rfl, hP, hMa, ok, met, k⟩ := h
    have hu65 := room65 hr
    refine ⟨_, (pss_cons (ps_set (i := 2) sc_law_met.nd rfl (Or.inl rfl) (pe_lst (pa_cons (pe_op (kop_repA (K := K)) (pe_tup (pa_cons pe_int pa_nil)) (pe_ix (kix_tup (K := K)) (pv 0) pe_int (fun _ _ => rfl))) pa_nil)))
        (pss_cons (ps_set (i := 3) sc_law_met.nd rfl (Or.inl rfl) pe_int)
        (pss_cons (ps_while PassesOwn.never (pt_cmpR op_lt (pv 3) (pe_callB (kcall_len (K := K)) (by rfl) Tx.b_len (by decide +kernel) (pa_cons (pv 2) pa_nil)) (nomark _))
        (pss_cons (ps_for PassesOwn.never rfl (pi_range1 (by rfl) Tx.b_range (pa_cons (pe_callB (kcall_len (K := K)) (by rfl) Tx.b_len (by decide +kernel) (pa_cons (pe_ix (kix_tup (K := K)) (pv 0) pe_int (fun _ _ => rfl)) pa_nil)) pa_nil)) (pg_name (i := 4) sc_law_met.nd rfl (Or.inl rfl))
        (pss_cons (ps_set (i := 5) sc_law_met.nd rfl (Or.inl rfl) (pe_g G_law_moved (hr.mono (by decide)) (by rfl) (pa_cons (pv 0) (pa_cons (pv 1) (pa_cons (pe_ix (kix_list (K := K)) (pv 2) (pv 3) (fun _ _ => rfl)) (pa_cons (pv 4) pa_nil))))))
        (pss_one (ps_if (pt_cmpR (kop_notInD (K := K) hu65) (pv 5) (pv 2) (by rfl)) (pss_one (ps_expr (kpe_bm (K := K) (pe_bm PySem.F.plainAttrs_list PySem.F.slot_list_append PySem.F.type_list_append mt_append (pv 2) (pa_cons (pv 5) pa_nil))))) pss_nil))))
        (pss_one (ps_set (i := 3) sc_law_met.nd rfl (Or.inl rfl) (pe_op op_add (pv 3) pe_int)))))
        (pss_one (ps_ret (pv 2)))))), ?_⟩
    have w10 := ok.off.w10
    have d1 := ok.off.d1
    have d4 := ok.off.d4
    generalize eS : sysM M = S at met
    have Snw : S.nw = M.ws.length := by rw [← eS]; rfl
    have Snext : ∀ s w, S.next s w = M.next s w := fun s w => by rw [← eS]; rfl
    have hP' := hP
    obtain ⟨pa, pw, rfl, hpa, aw, wsv, rfl, haw, hwl, hwx⟩ := hP
    refine ⟨by decide, fun e0 ne0 => ⟨_, rfl, pa, _, _, _, rfl, rfl, SqT.of ((Kp.new ne0).get hpa), at_of (j := 0) rfl rfl, ?_⟩⟩
    refine r_rep0 (n := M.d) upd_same d1 (by omega) fun v0 H1 k1' t0 => ⟨one_le, fun l nl => ?_⟩
    have k1 : Kp [] H H1 := (Kp.new ne0).trans k1'
    have nlH : H l = none := k1.free _ nl
    have kl : Kp [] H1 (upd H1 l (.lst [v0])) := Kp.new nl
    have hl2 : (upd H1 l (.lst [v0])) l = some (.lst [v0]) := upd_same
    refine ⟨fun c σ H' => ∃ i found x4 x5, Met S (FewM (Fit M.many)) c i found order ∧ Kp [] H H' ∧ LR T1 H' l found ∧ σ = [some (.ref pa), some v2, some (.ref l), some (.int (i : Int)), x4, x5],
      ⟨n, 0, [M.first], none, none, met, k1.trans kl, LR.one hl2 (t0.tk kl.tk), rfl⟩, ?_⟩
    rintro c σ H3 ⟨i, found, x4, x5, B, k3, ⟨vs, hl3, hvl, hvx⟩, rfl⟩
    obtain ⟨⟨glen, gok⟩, lend, lstep⟩ := B.look
    refine ⟨_, rfl, _, rfl, l, vs, rfl, .inl (SqL.of hl3), _, _, rfl, rfl, _, rfl, ?_⟩
    by_cases hi : ¬ i < found.length
    · rw [decide_eq_false (by rw [hvl]; omega)]
      have e := lend (by omega)
      subst e
      exact iteF ⟨_, rfl, k l H3 k3 nlH ⟨vs, hl3, hvl, hvx⟩⟩
    replace hi := Decidable.not_not.mp hi
    rw [decide_eq_true (by rw [hvl]; omega)]
    obtain ⟨s0, es0⟩ : ∃ s0, found[i]? = some s0 := ⟨_, List.getElem?_eq_getElem hi⟩
    obtain ⟨c', hc', B'⟩ := lstep s0 es0
    have fit0 := gok s0 (List.mem_of_getElem? es0)
    refine iteT ⟨fun σ H' => ∃ x4 x5, Kp [] H H' ∧ LR T1 H' l (meets S found s0) ∧ σ = [some (.ref pa), some v2, some (.ref l), some (.int ((i + 1 : Nat) : Int)), x4, x5], ?_, ?_⟩
    · rintro σ H4 ⟨x4, x5, h1, h2, rfl⟩
      exact ⟨c', hc', i + 1, _, x4, x5, B', h1, h2, rfl⟩
    refine ⟨_, rfl, pa, _, _, _, rfl, rfl, SqT.of (k3.tup hpa), at_of (j := 1) rfl rfl, aw, _, rfl, .inr (SqT.of (k3.tup haw)), _, rfl, by omega, by omega, ?_⟩
    refine for_it (walk_range (lo := 0) (n := ((wsv.length : Nat) : Int).toNat)) (fun w σ H' => Kp [] H H' ∧ LR T1 H' l (mUpTo S found s0 w) ∧ ∃ x4 x5, σ = [some (.ref pa), some v2, some (.ref l), some (.int (i : Int)), x4, x5])
      ⟨k3, ⟨vs, hl3, hvl, hvx⟩, _, _, rfl⟩ (fun _ _ _ _ _ => trivial) ?_ ?_
    · rintro w x σ H5 H4 hw ⟨k4, ⟨ys, hy, hyl, hyx⟩, x4, x5, rfl⟩ ⟨rfl, rfl⟩
      have hw2 : w < M.ws.length := by omega
      have eg := mUpTo_get S found s0 es0 w
      have hyi : i < ys.length := by have := (List.getElem?_eq_some_iff.mp eg).1; omega
      have ul := mUpTo_len S found s0 w
      have tv := hyx i _ _ (List.getElem?_eq_getElem hyi) eg
      refine ⟨_, rfl, _, rfl, _, rfl, _, rfl, l, _, _, _, rfl, rfl, SqL.of hy, at_of rfl (List.getElem?_eq_getElem hyi), _, rfl, .ref pa, v2, _, M, s0, w, by simp, hP'.kp k4, hMa.kp k4 NoD.nil, ok, tv, fit0, hw2, fun v' H6 k6 t6 => ?_⟩
      rw [← Snext] at t6
      have hy6 := k6.get hy
      have hlr6 : LT H6 l (mUpTo S found s0 w) := ⟨ys, hy6, hyl, fun j x y e1 e2 => (hyx j x y e1 e2).tk k6.tk⟩
      refine ⟨_, rfl, _, rfl, _, _, t6.dp, hlr6.dp, sh_T _, sh_LT _, _, rfl, ?_⟩
      rw [any_T, mUpTo_succ]
      unfold meet
      by_cases mem : S.next s0 w ∈ mUpTo S found s0 w
      · rw [decide_eq_true mem, if_pos mem]
        exact iteF ⟨k4.trans k6, hlr6, _, _, rfl⟩
      · rw [decide_eq_false mem, if_neg mem]
        refine iteT ⟨_, rfl, .inl ⟨rfl, ys, SqL.of hy6⟩, _, rfl, l, ys, _, rfl, rfl, hy6, size_lt (by omega), ?_⟩
        exact ⟨(k4.trans k6).mut nlH, LR.push (fun t h => h.tk t) hyl hyx k6.tk hy6 t6, _, _, rfl⟩
    · rintro σ H4 ⟨k4, hlr, x4, x5, rfl⟩
      have ew : ((wsv.length : Nat) : Int).toNat = S.nw := by rw [Snw]; omega
      rw [ew, mUpTo_all] at hlr
      exact ⟨_, rfl, _, _, rfl, rfl, _, _, k4, hlr, rfl⟩

abbrev s_law_joined : Stmt := top 66
theorem sc_law_joined : FnScope ["_law_parts_here", "_law_machine_here", "_law_order", "_law_steps", "_law_notes_here", "_law_work"] ["_law_parts_here", "_law_machine_here"] (defScope s_law_joined) := ⟨rfl, rfl, rfl, by decide +kernel, rfl, by decide +kernel, by decide +kernel⟩
theorem ok_law_joined {f : Addr} {fd : FuncData} (F : Fun K "_law_joined" "_law_joined" s_law_joined f fd) (Tx : Txt mg) (G_law_met : Gf P w K mg base "_law_met" ["_law_parts_here", "_law_machine_here"] 2 sp_law_met) (G_law_moved : Gf P w K mg base "_law_moved" ["_law_parts_here", "_law_machine_here", "_law_notes_here", "_law_work"] 1 sp_law_moved) : FnOk P w K mg base CX0 3 f fd ["_law_parts_here", "_law_machine_here"] sp_law_joined := by
  refine F.ok sc_law_joined (fun vs H Q E h => ?_) (fun cdv A outer s H vs Q E hr h => ?_)
  · obtain ⟨v1, v2, M, n, order, rfl, hP, hMa, ok, met, sok, k⟩ := h
    rfl
  · obtain ⟨v1, v2, M, n, order, rfl, hP, hMa, ok, met, sok, k⟩ := h
    have hu := hu_of hr
    have hu65 := room65 hr
    refine ⟨_, (pss_cons (ps_set (i := 2) sc_law_joined.nd rfl (Or.inr rfl) (pe_g G_law_met (hr.mono (by decide)) (by rfl) (pa_cons (pv 0) (pa_cons (pv 1) pa_nil))))
        (pss_cons (ps_set (i := 3) sc_law_joined.nd rfl (Or.inl rfl) (pe_lst pa_nil))
        (pss_cons (ps_for PassesOwn.never rfl (kpi_list (K := K) (pv 2)) (pg_name (i := 4) sc_law_joined.nd rfl (Or.inr rfl))
        (pss_one (ps_expr (kpe_bm (K := K) (pe_bm PySem.F.plainAttrs_list PySem.F.slot_list_append PySem.F.type_list_append mt_append (pv 3) (pa_cons (pe_callTy (kcall_tup (K := K)) (by rfl) Tx.b_tuple (by decide +kernel) (pa_cons (pe_lc (own := [("_law_work", 5)]) (g := gName 5) (tt := tYes) rfl sc_law_joined.nd (pi_range1 (by rfl) Tx.b_range (pa_cons (pe_callB (kcall_len (K := K)) (by rfl) Tx.b_len (by decide +kernel) (pa_cons (pe_ix (kix_tup (K := K)) (pv 0) pe_int (fun _ _ => rfl)) pa_nil)) pa_nil)) (blkOk_by (own := [("_law_work", 5)]) (N := ["_law_parts_here", "_law_machine_here", "_law_order", "_law_steps", "_law_notes_here", "_law_work"]) (sc := (defScope s_law_joined)) (by decide +kernel)) (fun _ _ _ _ _ => (pg_name (i := 5) sc_law_joined.nd rfl (Or.inl rfl))) (fun _ _ _ _ _ => pts_nil) (fun _ _ _ _ _ => (kpe_bm (K := K) (pe_bm PySem.F.plainAttrs_list PySem.F.slot_list_index PySem.F.type_list_index (kmt_indexD (K := K) hu65) (pv 2) (pa_cons (pe_g G_law_moved (hr.mono (by decide)) (by rfl) (pa_cons (pv 0) (pa_cons (pv 1) (pa_cons (pv 4) (pa_cons (pv 5) pa_nil))))) pa_nil))))) pa_nil)) pa_nil))))))
        (pss_one (ps_ret (pe_tup (pa_cons (pe_callTy (kcall_tup (K := K)) (by rfl) Tx.b_tuple (by decide +kernel) (pa_cons (pe_lc (own := [("_law_notes_here", 4)]) (g := gName 4) (tt := tYes) rfl sc_law_joined.nd (kpi_list (K := K) (pv 2)) (blkOk_by (own := [("_law_notes_here", 4)]) (N := ["_law_parts_here", "_law_machine_here", "_law_order", "_law_steps", "_law_notes_here", "_law_work"]) (sc := (defScope s_law_joined)) (by decide +kernel)) (fun _ _ _ _ _ => (pg_name (i := 4) sc_law_joined.nd rfl (Or.inl rfl))) (fun _ _ _ _ _ => pts_nil) (fun _ _ _ _ _ => (pe_dget hu (pe_ix (kix_tup (K := K)) (pv 1) pe_int (fun _ _ => rfl)) (pv 4) (fun _ _ => rfl)))) pa_nil)) (pa_cons (pe_callTy (kcall_tup (K := K)) (by rfl) Tx.b_tuple (by decide +kernel) (pa_cons (pv 3) pa_nil)) pa_nil)))))))), ?_⟩
    have oo := met.ord
    have hP' := hP
    have hMa' := hMa
    obtain ⟨pa, pw, rfl, hpa, aw, wsv, rfl, haw, hwl, hwx⟩ := hP
    obtain ⟨ma, mv1, mv2, mv3, rfl, hma, hm1, hm2, hm3⟩ := hMa
    have w10 := ok.off.w10
    have ol := oo.len
    refine ⟨_, rfl, _, rfl, .ref pa, .ref ma, M, n, order, rfl, hP', hMa', ok, met, fun l H1 k1 nl hlt => ?_⟩
    obtain ⟨vs, hl, hvl, hvx⟩ := hlt
    refine ⟨Nat.zero_le _, fun ls nls => ?_⟩
    have kls : Kp [] H1 (upd H1 ls (.lst [])) := Kp.new nls
    have nlsH : H ls = none := k1.free _ nls
    refine ⟨_, rfl, l, rfl, ⟨_, SqL.of (kls.get hl)⟩, ?_⟩
    refine for_it (walk_list (K := K) (a := l) (xs := vs)) (fun i σ H' => Kp [] H1 H' ∧ LR T1 H' ls ((stepsOf M order).take i) ∧ ∃ x, σ = [some (.ref pa), some (.ref ma), some (.ref l), some (.ref ls), x, none]) ⟨kls, LR.nil upd_same, _, rfl⟩ (fun i σ H' hi q => SqL.of (q.1.get hl)) ?_ ?_
    · rintro i x σ H3 H2 hi ⟨k2, ⟨ys, hy, hyl, hyx⟩, z, rfl⟩ ⟨rfl, hx⟩
      have hio : i < order.length := by omega
      have eo : order[i]? = some order[i] := List.getElem?_eq_getElem hio
      have mem := List.getElem_mem hio
      have tx := hvx i x _ hx eo
      have est := steps_at (M := M) eo
      have k12 := k1.trans k2
      rw [List.length_take, steps_len] at hyl
      refine ⟨_, rfl, .inl ⟨rfl, ys, SqL.of hy⟩, ?_⟩
      refine t_tup1 (walk_range (lo := 0) (n := ((wsv.length : Nat) : Int).toNat)) (ch := []) (H1 := H2) (fun R q => ⟨_, rfl, pa, _, _, _, rfl, rfl, SqT.of (k12.tup hpa), at_of (j := 1) rfl rfl, aw, _, rfl, .inr (SqT.of (k12.tup haw)), _, rfl, by omega, by omega, q⟩) ((List.range M.ws.length).map fun w => order.idxOf (M.next order[i] w)) (by rw [List.length_map, List.length_range]; omega) no_ch (by omega) (fun _ _ => trivial) yk_fn ?_ ?_
      · rintro w g x2 H5 H4 Q' hw hg k4 ⟨rfl, rfl⟩ q
        have hw2 : w < M.ws.length := by omega
        have kk := k12.trans k4
        have l4 : LT H4 l order := ⟨vs, (k2.trans k4).get hl, hvl, fun i x y e1 e2 => (hvx i x y e1 e2).tk (k2.trans k4).tk⟩
        refine ⟨rfl, _, rfl, .inl ⟨rfl, vs, SqL.of ((k2.trans k4).get hl)⟩, _, rfl, _, rfl, _, rfl, _, rfl, .ref pa, .ref ma, x, M, order[i], w, by simp, hP'.kp kk, hMa'.kp kk NoD.nil, ok, tx.tk (k2.trans k4).tk, oo.fit _ mem, hw2, fun v' H6 k6 t6 => ?_⟩
        have hc := oo.closed _ mem w hw2
        have ei := idx_at hc
        have l6 : LT H6 l order := l4.kp k6 (fun z => nomatch z)
        refine ⟨l, v', dT (M.next order[i] w), order.map dT, order.idxOf (M.next order[i] w), dT (M.next order[i] w), rfl, rfl, l6.dp, t6.dp, sh_LT _, sh_T _, by rw [List.getElem?_map, ei]; rfl, by rw [eqv_T]; simp, fun j z' hj ez => ?_, ?_⟩
        · rw [List.getElem?_map] at ez
          cases e : order[j]? with
          | none => rw [e] at ez; cases ez
          | some y =>
            rw [e] at ez
            injection ez with ez
            rw [← ez, eqv_T]
            refine decide_eq_false fun e2 => ?_
            subst e2
            have hjl := (List.getElem?_eq_some_iff.mp e).1
            have e3 := (List.getElem?_eq_some_iff.mp e).2
            have := nd_idx oo.nd hjl
            rw [e3] at this
            omega
        · rw [List.getElem?_map, List.getElem?_range hw2] at hg
          injection hg with hg
          dsimp only at hg
          rw [hg]
          exact q H6 k6
      · intro v H4 k4 t4
        have hy4 := k4.get hy
        refine ⟨ls, ys, _, rfl, rfl, hy4, size_lt (by omega), (k2.trans k4).mut nls, ?_, _, rfl⟩
        rw [List.take_add_one, est, Option.toList_some]
        exact LR.push (fun t h => h.tk t) (by rw [hyl, List.length_take, steps_len]) hyx k4.tk hy4 t4
    · rintro σ H2 ⟨k2, ⟨ys, hy, hyl, hyx⟩, z, rfl⟩
      rw [hvl, List.take_of_length_le (by rw [steps_len]; exact Nat.le_refl _)] at hyl hyx
      have k12 := k1.trans k2
      dsimp only
      refine r_tup1 ?_
      refine t_tup1 (walk_list (K := K) (a := l) (xs := vs)) (ch := []) (H1 := H2) (fun R q => ⟨_, rfl, l, rfl, ⟨_, SqL.of (k2.get hl)⟩, q⟩) (telOf M order) (by rw [tel_len]; omega) no_ch (by omega) (fun H3 k3 => SqL.of ((k2.trans k3).get hl)) yk_at ?_ ?_
      · rintro i t x H4 H3 Q' hi ht k3 ⟨rfl, hx⟩ q
        have hio : i < order.length := by omega
        have eo : order[i]? = some order[i] := List.getElem?_eq_getElem hio
        have kk := k12.trans k3
        obtain ⟨b, rfl, hb⟩ := (hvx i x _ hx eo).tk (k2.trans k3).tk
        obtain ⟨pt, y, ept, dg, hy⟩ := (hm3.kp kk NoD.nil).get (mem_allN.mpr (oo.fit _ (List.getElem_mem hio))) hb
        subst hy
        rw [tel_at eo] at ht
        injection ht with ht
        subst ht
        exact ⟨rfl, _, rfl, ma, _, _, _, rfl, rfl, SqT.of (kk.tup hma), at_of (j := 2) rfl rfl, _, rfl, pt, _, ept, dg, q _ Kp.refl⟩
      · intro v H3 k3 t3
        have hy3 := k3.get hy
        refine ⟨_, rfl, ls, ys, rfl, .inl ⟨SqL.of hy3, fun c nc => ⟨two_le, fun r nr => ?_⟩⟩⟩
        have kc : Kp [] H3 (upd H3 c (.tup ys)) := Kp.new nc
        have kr : Kp [] (upd H3 c (.tup ys)) (upd (upd H3 c (.tup ys)) r (.tup [v, .ref c])) := Kp.new nr
        refine k _ _ (((k12.trans k3).trans kc).trans kr) ⟨r, v, .ref c, rfl, upd_same, (t3.tk kc.tk).tk kr.tk, c, ys, rfl, kr.get upd_same, hyl, fun i x y e1 e2 => (((hyx i x y e1 e2).tk k3.tk).tk kc.tk).tk kr.tk⟩

abbrev s_law_some_book : Stmt := top 67
theorem sc_law_some_book : FnScope ["_law_dice_here", "_law_parts_here", "_law_made_here", "_law_telling", "_law_steps", "_law_kind", "_law_many", "_law_at", "_law_work", "_law_goals"] ["_law_dice_here", "_law_parts_here", "_law_made_here"] (defScope s_law_some_book) := ⟨rfl, rfl, rfl, by decide +kernel, rfl, by decide +kernel, by decide +kernel⟩
theorem ok_law_some_book {f : Addr} {fd : FuncData} (F : Fun K "_law_some_book" "_law_some_book" s_law_some_book f fd) (Tx : Txt mg) (G_law_draw : Gf P w K mg base "_law_draw" ["_law_dice_here", "_law_sides"] 1 sp_law_draw) (G_law_joined : Gf P w K mg base "_law_joined" ["_law_parts_here", "_law_machine_here"] 3 sp_law_joined) : FnOk P w K mg base CX0 4 f fd ["_law_dice_here", "_law_parts_here", "_law_made_here"] sp_law_some_book := by
  refine F.ok sc_law_some_book (fun vs H Q E h => ?_) (fun cdv A outer s H vs Q E hr h => ?_)
  · obtain ⟨d, c, v1, v2, M, n, order, rfl, hdi, hP, hMa, ok, met, sok, k⟩ := h
    rfl
  · obtain ⟨d, c, v1, v2, M, n, order, rfl, hdi, hP, hMa, ok, met, sok, k⟩ := h
    refine ⟨_, (pss_cons (ps_asg (pe_g G_law_joined (hr.mono (by decide)) (by rfl) (pa_cons (pv 1) (pa_cons (pv 2) pa_nil))) (kpg_tup (K := K) rfl (pgs_cons (pg_name (i := 3) sc_law_some_book.nd rfl (Or.inl rfl)) (pgs_cons (pg_name (i := 4) sc_law_some_book.nd rfl (Or.inl rfl)) pgs_nil))))
        (pss_cons (ps_set (i := 5) sc_law_some_book.nd rfl (Or.inl rfl) (pe_g G_law_draw (hr.mono (by decide)) (by rfl) (pa_cons (pv 0) (pa_cons pe_int pa_nil))))
        (pss_cons (ps_if (PW.pt (pw_or (pt_cmpR op_eq (pv 5) pe_int (nomark _)) (pw_or1 (pt_cmpR op_gt (pe_callB (kcall_len (K := K)) (by rfl) Tx.b_len (by decide +kernel) (pa_cons (pv 3) pa_nil)) pe_int (nomark _))))) (pss_cons (ps_set (i := 6) sc_law_some_book.nd rfl (Or.inr rfl) (pe_op op_add pe_int (pe_g G_law_draw (hr.mono (by decide)) (by rfl) (pa_cons (pv 0) (pa_cons pe_int pa_nil)))))
        (pss_cons (ps_set (i := 3) sc_law_some_book.nd rfl (Or.inl rfl) (pe_callTy (kcall_tup (K := K)) (by rfl) Tx.b_tuple (by decide +kernel) (pa_cons (pe_lc (own := [("_law_at", 7)]) (g := gName 7) (tt := tYes) rfl sc_law_some_book.nd (pi_range1 (by rfl) Tx.b_range (pa_cons (pv 6) pa_nil)) (blkOk_by (own := [("_law_at", 7)]) (N := ["_law_dice_here", "_law_parts_here", "_law_made_here", "_law_telling", "_law_steps", "_law_kind", "_law_many", "_law_at", "_law_work", "_law_goals"]) (sc := (defScope s_law_some_book)) (by decide +kernel)) (fun _ _ _ _ _ => (pg_name (i := 7) sc_law_some_book.nd rfl (Or.inl rfl))) (fun _ _ _ _ _ => pts_nil) (fun _ _ _ _ _ => (pe_g G_law_draw (hr.mono (by decide)) (by rfl) (pa_cons (pv 0) (pa_cons pe_int pa_nil))))) pa_nil)))
        (pss_one (ps_ret (pe_tup (pa_cons (pv 3) (pa_cons (pe_callTy (kcall_tup (K := K)) (by rfl) Tx.b_tuple (by decide +kernel) (pa_cons (pe_lc (own := [("_law_at", 7)]) (g := gName 7) (tt := tYes) rfl sc_law_some_book.nd (pi_range1 (by rfl) Tx.b_range (pa_cons (pv 6) pa_nil)) (blkOk_by (own := [("_law_at", 7)]) (N := ["_law_dice_here", "_law_parts_here", "_law_made_here", "_law_telling", "_law_steps", "_law_kind", "_law_many", "_law_at", "_law_work", "_law_goals"]) (sc := (defScope s_law_some_book)) (by decide +kernel)) (fun _ _ _ _ _ => (pg_name (i := 7) sc_law_some_book.nd rfl (Or.inl rfl))) (fun _ _ _ _ _ => pts_nil) (fun _ _ _ _ _ => (pe_callTy (kcall_tup (K := K)) (by rfl) Tx.b_tuple (by decide +kernel) (pa_cons (pe_lc (own := [("_law_work", 8)]) (g := gName 8) (tt := tYes) rfl sc_law_some_book.nd (kpi_tup (K := K) (pe_ix (kix_tup (K := K)) (pv 1) pe_int (fun _ _ => rfl))) (blkOk_by (own := [("_law_work", 8)]) (N := ["_law_dice_here", "_law_parts_here", "_law_made_here", "_law_telling", "_law_steps", "_law_kind", "_law_many", "_law_at", "_law_work", "_law_goals"]) (sc := (relS (compScope (cx_law_some_book)) (defScope s_law_some_book))) (by decide +kernel)) (fun _ _ _ _ _ => (pg_name (i := 8) sc_law_some_book.nd rfl (Or.inl rfl))) (fun _ _ _ _ _ => pts_nil) (fun _ _ _ _ _ => (pe_g G_law_draw (hr.mono (by decide)) (by rfl) (pa_cons (pv 0) (pa_cons (pv 6) pa_nil))))) pa_nil)))) pa_nil)) pa_nil))))))) pss_nil)
        (pss_cons (ps_set (i := 7) sc_law_some_book.nd rfl (Or.inl rfl) (pe_g G_law_draw (hr.mono (by decide)) (by rfl) (pa_cons (pv 0) (pa_cons (pe_callB (kcall_len (K := K)) (by rfl) Tx.b_len (by decide +kernel) (pa_cons (pv 3) pa_nil)) pa_nil))))
        (pss_cons (ps_if (pt_cmpR op_eq (pv 5) pe_int (nomark _)) (pss_one (ps_ret (pe_tup (pa_cons (pe_op (kop_catA (K := K)) (pe_op (kop_catA (K := K)) (pe_slice (ksl_tup (K := K)) (pv 3) po_none (po_some (pv 7))) (pe_tup (pa_cons (pe_op op_mod (pe_callTy call_int1 (by rfl) Tx.b_int (by decide +kernel) (pa_cons (pe_op op_add (pe_ix (kix_tup (K := K)) (pv 3) (pv 7) (fun _ _ => rfl)) pe_int) pa_nil)) pe_int) pa_nil))) (pe_slice (ksl_tup (K := K)) (pv 3) (po_some (pe_op op_add (pv 7) pe_int)) po_none)) (pa_cons (pv 4) pa_nil))))) pss_nil)
        (pss_cons (ps_if (pt_cmpR op_eq (pv 5) pe_int (nomark _)) (pss_cons (ps_set (i := 8) sc_law_some_book.nd rfl (Or.inl rfl) (pe_g G_law_draw (hr.mono (by decide)) (by rfl) (pa_cons (pv 0) (pa_cons (pe_callB (kcall_len (K := K)) (by rfl) Tx.b_len (by decide +kernel) (pa_cons (pe_ix (kix_tup (K := K)) (pv 1) pe_int (fun _ _ => rfl)) pa_nil)) pa_nil))))
        (pss_cons (ps_set (i := 9) sc_law_some_book.nd rfl (Or.inl rfl) (pe_op (kop_catA (K := K)) (pe_op (kop_catA (K := K)) (pe_slice (ksl_tup (K := K)) (pe_ix (kix_tup (K := K)) (pv 4) (pv 7) (fun _ _ => rfl)) po_none (po_some (pv 8))) (pe_tup (pa_cons (pe_g G_law_draw (hr.mono (by decide)) (by rfl) (pa_cons (pv 0) (pa_cons (pe_callB (kcall_len (K := K)) (by rfl) Tx.b_len (by decide +kernel) (pa_cons (pv 3) pa_nil)) pa_nil))) pa_nil))) (pe_slice (ksl_tup (K := K)) (pe_ix (kix_tup (K := K)) (pv 4) (pv 7) (fun _ _ => rfl)) (po_some (pe_op op_add (pv 8) pe_int)) po_none)))
        (pss_one (ps_ret (pe_tup (pa_cons (pv 3) (pa_cons (pe_op (kop_catA (K := K)) (pe_op (kop_catA (K := K)) (pe_slice (ksl_tup (K := K)) (pv 4) po_none (po_some (pv 7))) (pe_tup (pa_cons (pv 9) pa_nil))) (pe_slice (ksl_tup (K := K)) (pv 4) (po_some (pe_op op_add (pv 7) pe_int)) po_none)) pa_nil))))))) pss_nil)
        (pss_one (ps_ret (pe_tup (pa_cons (pv 3) (pa_cons (pv 4) pa_nil))))))))))), ?_⟩
    have hP' := hP
    obtain ⟨pa, pw, rfl, hpa, aw, wsv, rfl, haw, hwl, hwx⟩ := hP
    have w1 := ok.off.w1
    have w10 := ok.off.w10
    have nD := hdi.d
    have nC := hdi.c
    refine ⟨_, rfl, _, rfl, .ref pa, v2, M, n, order, rfl, hP', hMa, ok, met, sok, fun v H1 k1 hb => ?_⟩
    generalize telOf M order = tel at sok hb
    generalize stepsOf M order = steps at sok hb
    obtain ⟨ab, vt, vs, rfl, hab, ⟨t, rfl, ht⟩, ⟨bs, ss, rfl, hbs, hsl, hsx⟩⟩ := hb
    refine ⟨ab, _, rfl, SqT.of hab, rfl, _, _, rfl, _, _, rfl, rfl, ?_⟩
    have hd1 := hdi.kp k1 (fun z => nomatch z) (fun z => nomatch z)
    refine ⟨_, rfl, d, c, 4, rfl, hd1, by decide, by decide, fun kind H2 hk k2 hd2 => ?_⟩
    have k12 : Kp [d] H H2 := k1.any.trans k2
    have ht2 := k2.tup ht
    have hbs2 := k2.tup hbs
    have one := sok.one
    have e1 := sok.len
    rcases (show (kind = 0 ∨ 12 < tel.length) ∨ (kind ≠ 0 ∧ tel.length ≤ 12) from by omega) with hA | ⟨hB0, hB12⟩
    · refine ⟨_, rfl, rfl, _, rfl, ?_⟩
      by_cases h0 : kind = 0
      · rw [show decide (V.int (kind : Int) = V.int 0) = true from by simp [h0]]
        refine iteT (iteT ?_)
        refine ⟨_, rfl, d, c, 6, rfl, hd2, by decide, by decide, fun m H3 hm k3 hd3 => ⟨_, _, rfl, rfl, ?_⟩⟩
        have k13 := k12.trans k3
        refine r_g ?_
        dsimp only
        refine r_seqA ?_
        refine t_tupW (walk_range (lo := 0) (n := (1 + (m : Int)).toNat)) (ch := [d]) (H1 := H3) (fun R q => ⟨_, rfl, _, rfl, by omega, by omega, q⟩) (fun i ys H' => DiceAt H' d c ∧ ∃ ns, ys = vz ns ∧ ns.length = i ∧ ∀ m ∈ ns, m < 2) (fun x hx => by rw [List.mem_singleton.mp hx]; exact hd3.d) (by omega) (fun _ _ => trivial)
          (fun D hD => ⟨hd3.kp (ch := []) (Kp.new hD) (fun z => nomatch z) (fun z => nomatch z), [], rfl, rfl, (fun m hm => absurd hm List.not_mem_nil)⟩) ?_ ?_
        · rintro D i x H5 H4 ys QT QF hD hi k4 hys ⟨hd4, ns, rfl, hl, hm4⟩ ⟨rfl, rfl⟩ qT qF
          refine ⟨rfl, r_yes ⟨_, rfl, d, c, 2, rfl, hd4, by decide, by decide, fun g H5 hg k5 hd5 => ?_⟩⟩
          have nDd : D ≠ d := fun e => by rw [e] at hD; exact hd3.d hD
          have nDc : D ≠ c := fun e => by rw [e] at hD; exact hd3.c hD
          have hy5 : H5 D = some (.lst (vz ns)) := k5.at hys (by simpa using nDd)
          refine qT _ _ k5 ⟨hd5.kp (ch := [D]) (Kp.refl.put List.mem_cons_self fun xs e => by rw [hy5] at e; cases e) (by simpa using Ne.symm nDd) (by simpa using Ne.symm nDc), ns ++ [g], by rw [vz_append]; rfl, by rw [List.length_append, hl]; rfl, fun z hz => ?_⟩
          rcases List.mem_append.mp hz with h | h
          · exact hm4 z h
          · rw [List.mem_singleton.mp h]; exact hg
        rintro D ys H4 p hD k4 hys hyl ⟨hd4, tel', rfl, htl, ht9⟩ hp
        have kp : Kp [] H4 (upd H4 p (.tup (vz tel'))) := Kp.new hp
        have hp5 : (upd H4 p (.tup (vz tel'))) p = some (.tup (vz tel')) := upd_same
        have k15 := (k13.trans k4).trans kp.any
        have hd5 := hd4.kp kp (fun z => nomatch z) (fun z => nomatch z)
        generalize upd H4 p (.tup (vz tel')) = H5 at k15 hd5 hp5
        refine r_pair ⟨_, rfl, ?_⟩
        refine t_tupW (walk_range (lo := 0) (n := (1 + (m : Int)).toNat)) (ch := [d]) (H1 := H5) (fun R q => ⟨_, rfl, _, rfl, by omega, by omega, q⟩) (fun i ys H' => DiceAt H' d c ∧ ys.length = i ∧ ∀ (j : Nat) y, ys[j]? = some y → ∃ gs, T1 H' y gs ∧ (gs.length = M.ws.length ∧ ∀ g ∈ gs, g < 1 + m)) (fun x hx => by rw [List.mem_singleton.mp hx]; exact hd5.d) (by omega) (fun _ _ => trivial)
          (fun D hD => ⟨hd5.kp (ch := []) (Kp.new hD) (fun z => nomatch z) (fun z => nomatch z), rfl, fun j y e => by simp at e⟩) ?_ ?_
        · rintro D2 i x H7 H6 ys QT QF hD2 hi k6 hys6 ⟨hd6, hl6, hit⟩ ⟨rfl, rfl⟩ qT qF
          have k16 := k15.trans k6
          have nDd2 : D2 ≠ d := fun e => by rw [e] at hD2; exact hd5.d hD2
          have nDc2 : D2 ≠ c := fun e => by rw [e] at hD2; exact hd5.c hD2
          refine ⟨rfl, r_yes ?_⟩
          refine t_tupW (walk_tup (K := K) (a := aw) (xs := wsv)) (ch := [d]) (H1 := H6) (fun R q => ⟨_, rfl, pa, _, _, _, rfl, rfl, SqT.of (k16.tup hpa), at_of (j := 1) rfl rfl, aw, rfl, ⟨_, SqT.of (k16.tup haw)⟩, q⟩) (fun i ys H' => DiceAt H' d c ∧ ∃ ns, ys = vz ns ∧ ns.length = i ∧ ∀ g ∈ ns, g < 1 + m) (fun x hx => by rw [List.mem_singleton.mp hx]; exact hd6.d) (by omega) (fun H' k' => SqT.of (k'.tup (k16.tup haw)))
            (fun D hD => ⟨hd6.kp (ch := []) (Kp.new hD) (fun z => nomatch z) (fun z => nomatch z), [], rfl, rfl, (fun m hm => absurd hm List.not_mem_nil)⟩) ?_ ?_
          · rintro D j x H8 H7 ys QT QF hD hj k7 hys ⟨hd7, ns, rfl, hl, hm4⟩ ⟨rfl, hx⟩ qT qF
            refine ⟨rfl, r_yes ⟨_, rfl, _, rfl, d, c, 1 + m, by simp, hd7, by omega, by omega, fun g H8 hg k8 hd8 => ?_⟩⟩
            have nDd : D ≠ d := fun e => by rw [e] at hD; exact hd6.d hD
            have nDc : D ≠ c := fun e => by rw [e] at hD; exact hd6.c hD
            have hy8 : H8 D = some (.lst (vz ns)) := k8.at hys (by simpa using nDd)
            refine qT _ _ k8 ⟨hd8.kp (ch := [D]) (Kp.refl.put List.mem_cons_self fun xs e => by rw [hy8] at e; cases e) (by simpa using Ne.symm nDd) (by simpa using Ne.symm nDc), ns ++ [g], by rw [vz_append]; rfl, by rw [List.length_append, hl]; rfl, fun z hz => ?_⟩
            rcases List.mem_append.mp hz with h | h
            · exact hm4 z h
            · rw [List.mem_singleton.mp h]; exact hg
          · rintro D ys7 H7 q hD k7 hys7 hyl7 ⟨hd7, gs, rfl, hgl, hgm⟩ hq
            have kq : Kp [] H7 (upd H7 q (.tup (vz gs))) := Kp.new hq
            have k8 := k7.trans kq.any
            have hy8 : (upd H7 q (.tup (vz gs))) D2 = some (.lst ys) := k8.at hys6 (by simpa using nDd2)
            have tD : Tk (upd H7 q (.tup (vz gs))) (upd (upd H7 q (.tup (vz gs))) D2 (.lst (ys ++ [.ref q]))) := Tk.put fun xs e => by rw [hy8] at e; cases e
            refine qT _ _ k8 ⟨(hd7.kp kq (fun z => nomatch z) (fun z => nomatch z)).kp (ch := [D2]) (Kp.refl.put List.mem_cons_self fun xs e => by rw [hy8] at e; cases e) (by simpa using Ne.symm nDd2) (by simpa using Ne.symm nDc2), by rw [List.length_append, hl6]; rfl, fun j y e => ?_⟩
            by_cases hj : j < ys.length
            · rw [List.getElem?_append_left hj] at e
              obtain ⟨gs', g1, g2⟩ := hit j y e
              exact ⟨gs', (g1.tk k8.tk).tk tD, g2⟩
            · rw [List.getElem?_append_right (by omega)] at e
              have h0' : j - ys.length = 0 := by
                have := (List.getElem?_eq_some_iff.mp e).1
                simp at this
                omega
              rw [h0'] at e
              injection e with e
              subst e
              exact ⟨gs, ⟨q, rfl, tD _ _ upd_same⟩, by rw [hgl, hwl], hgm⟩
        rintro D2 ys2 H6 q hD2 k6 hys6 hyl6 ⟨hd6, hl6, hit⟩ hq
        have kq : Kp [] H6 (upd H6 q (.tup ys2)) := Kp.new hq
        refine ⟨two_le, fun r hr => ?_⟩
        have kr : Kp [] (upd H6 q (.tup ys2)) (upd (upd H6 q (.tup ys2)) r (.tup [.ref p, .ref q])) := Kp.new hr
        have kf := kq.trans kr
        obtain ⟨xs, x1, x2, x3⟩ := some_lots hit
        refine k _ tel' xs _ ((k15.trans k6).trans kf.any) (hd6.kp kf (fun z => nomatch z) (fun z => nomatch z)) ⟨r, _, _, rfl, upd_same, ⟨p, rfl, kf.tup (k6.tup hp5)⟩, q, ys2, rfl, kr.get upd_same, x1, fun i x y e1 e2 => (x2 i x y e1 e2).tk kf.tk⟩
          ⟨by omega, fun t ht => by have := ht9 t ht; omega, by omega, fun gs hgs => ⟨(x3 gs hgs).1, fun g hg => by have := (x3 gs hgs).2 g hg; omega⟩⟩ (by omega)
      · rw [show decide (V.int (kind : Int) = V.int 0) = false from by simp [h0]]
        refine iteF ⟨_, rfl, t, _, rfl, .inr (SqT.of ht2), _, _, rfl, rfl, _, rfl, ?_⟩
        rw [decide_eq_true (by rw [vz_len]; omega)]
        refine iteT ?_
        refine ⟨_, rfl, d, c, 6, rfl, hd2, by decide, by decide, fun m H3 hm k3 hd3 => ⟨_, _, rfl, rfl, ?_⟩⟩
        have k13 := k12.trans k3
        refine r_g ?_
        dsimp only
        refine r_seqA ?_
        refine t_tupW (walk_range (lo := 0) (n := (1 + (m : Int)).toNat)) (ch := [d]) (H1 := H3) (fun R q => ⟨_, rfl, _, rfl, by omega, by omega, q⟩) (fun i ys H' => DiceAt H' d c ∧ ∃ ns, ys = vz ns ∧ ns.length = i ∧ ∀ m ∈ ns, m < 2) (fun x hx => by rw [List.mem_singleton.mp hx]; exact hd3.d) (by omega) (fun _ _ => trivial)
          (fun D hD => ⟨hd3.kp (ch := []) (Kp.new hD) (fun z => nomatch z) (fun z => nomatch z), [], rfl, rfl, (fun m hm => absurd hm List.not_mem_nil)⟩) ?_ ?_
        · rintro D i x H5 H4 ys QT QF hD hi k4 hys ⟨hd4, ns, rfl, hl, hm4⟩ ⟨rfl, rfl⟩ qT qF
          refine ⟨rfl, r_yes ⟨_, rfl, d, c, 2, rfl, hd4, by decide, by decide, fun g H5 hg k5 hd5 => ?_⟩⟩
          have nDd : D ≠ d := fun e => by rw [e] at hD; exact hd3.d hD
          have nDc : D ≠ c := fun e => by rw [e] at hD; exact hd3.c hD
          have hy5 : H5 D = some (.lst (vz ns)) := k5.at hys (by simpa using nDd)
          refine qT _ _ k5 ⟨hd5.kp (ch := [D]) (Kp.refl.put List.mem_cons_self fun xs e => by rw [hy5] at e; cases e) (by simpa using Ne.symm nDd) (by simpa using Ne.symm nDc), ns ++ [g], by rw [vz_append]; rfl, by rw [List.length_append, hl]; rfl, fun z hz => ?_⟩
          rcases List.mem_append.mp hz with h | h
          · exact hm4 z h
          · rw [List.mem_singleton.mp h]; exact hg
        rintro D ys H4 p hD k4 hys hyl ⟨hd4, tel', rfl, htl, ht9⟩ hp
        have kp : Kp [] H4 (upd H4 p (.tup (vz tel'))) := Kp.new hp
        have hp5 : (upd H4 p (.tup (vz tel'))) p = some (.tup (vz tel')) := upd_same
        have k15 := (k13.trans k4).trans kp.any
        have hd5 := hd4.kp kp (fun z => nomatch z) (fun z => nomatch z)
        generalize upd H4 p (.tup (vz tel')) = H5 at k15 hd5 hp5
        refine r_pair ⟨_, rfl, ?_⟩
        refine t_tupW (walk_range (lo := 0) (n := (1 + (m : Int)).toNat)) (ch := [d]) (H1 := H5) (fun R q => ⟨_, rfl, _, rfl, by omega, by omega, q⟩) (fun i ys H' => DiceAt H' d c ∧ ys.length = i ∧ ∀ (j : Nat) y, ys[j]? = some y → ∃ gs, T1 H' y gs ∧ (gs.length = M.ws.length ∧ ∀ g ∈ gs, g < 1 + m)) (fun x hx => by rw [List.mem_singleton.mp hx]; exact hd5.d) (by omega) (fun _ _ => trivial)
          (fun D hD => ⟨hd5.kp (ch := []) (Kp.new hD) (fun z => nomatch z) (fun z => nomatch z), rfl, fun j y e => by simp at e⟩) ?_ ?_
        · rintro D2 i x H7 H6 ys QT QF hD2 hi k6 hys6 ⟨hd6, hl6, hit⟩ ⟨rfl, rfl⟩ qT qF
          have k16 := k15.trans k6
          have nDd2 : D2 ≠ d := fun e => by rw [e] at hD2; exact hd5.d hD2
          have nDc2 : D2 ≠ c := fun e => by rw [e] at hD2; exact hd5.c hD2
          refine ⟨rfl, r_yes ?_⟩
          refine t_tupW (walk_tup (K := K) (a := aw) (xs := wsv)) (ch := [d]) (H1 := H6) (fun R q => ⟨_, rfl, pa, _, _, _, rfl, rfl, SqT.of (k16.tup hpa), at_of (j := 1) rfl rfl, aw, rfl, ⟨_, SqT.of (k16.tup haw)⟩, q⟩) (fun i ys H' => DiceAt H' d c ∧ ∃ ns, ys = vz ns ∧ ns.length = i ∧ ∀ g ∈ ns, g < 1 + m) (fun x hx => by rw [List.mem_singleton.mp hx]; exact hd6.d) (by omega) (fun H' k' => SqT.of (k'.tup (k16.tup haw)))
            (fun D hD => ⟨hd6.kp (ch := []) (Kp.new hD) (fun z => nomatch z) (fun z => nomatch z), [], rfl, rfl, (fun m hm => absurd hm List.not_mem_nil)⟩) ?_ ?_
          · rintro D j x H8 H7 ys QT QF hD hj k7 hys ⟨hd7, ns, rfl, hl, hm4⟩ ⟨rfl, hx⟩ qT qF
            refine ⟨rfl, r_yes ⟨_, rfl, _, rfl, d, c, 1 + m, by simp, hd7, by omega, by omega, fun g H8 hg k8 hd8 => ?_⟩⟩
            have nDd : D ≠ d := fun e => by rw [e] at hD; exact hd6.d hD
            have nDc : D ≠ c := fun e => by rw [e] at hD; exact hd6.c hD
            have hy8 : H8 D = some (.lst (vz ns)) := k8.at hys (by simpa using nDd)
            refine qT _ _ k8 ⟨hd8.kp (ch := [D]) (Kp.refl.put List.mem_cons_self fun xs e => by rw [hy8] at e; cases e) (by simpa using Ne.symm nDd) (by simpa using Ne.symm nDc), ns ++ [g], by rw [vz_append]; rfl, by rw [List.length_append, hl]; rfl, fun z hz => ?_⟩
            rcases List.mem_append.mp hz with h | h
            · exact hm4 z h
            · rw [List.mem_singleton.mp h]; exact hg
          · rintro D ys7 H7 q hD k7 hys7 hyl7 ⟨hd7, gs, rfl, hgl, hgm⟩ hq
            have kq : Kp [] H7 (upd H7 q (.tup (vz gs))) := Kp.new hq
            have k8 := k7.trans kq.any
            have hy8 : (upd H7 q (.tup (vz gs))) D2 = some (.lst ys) := k8.at hys6 (by simpa using nDd2)
            have tD : Tk (upd H7 q (.tup (vz gs))) (upd (upd H7 q (.tup (vz gs))) D2 (.lst (ys ++ [.ref q]))) := Tk.put fun xs e => by rw [hy8] at e; cases e
            refine qT _ _ k8 ⟨(hd7.kp kq (fun z => nomatch z) (fun z => nomatch z)).kp (ch := [D2]) (Kp.refl.put List.mem_cons_self fun xs e => by rw [hy8] at e; cases e) (by simpa using Ne.symm nDd2) (by simpa using Ne.symm nDc2), by rw [List.length_append, hl6]; rfl, fun j y e => ?_⟩
            by_cases hj : j < ys.length
            · rw [List.getElem?_append_left hj] at e
              obtain ⟨gs', g1, g2⟩ := hit j y e
              exact ⟨gs', (g1.tk k8.tk).tk tD, g2⟩
            · rw [List.getElem?_append_right (by omega)] at e
              have h0' : j - ys.length = 0 := by
                have := (List.getElem?_eq_some_iff.mp e).1
                simp at this
                omega
              rw [h0'] at e
              injection e with e
              subst e
              exact ⟨gs, ⟨q, rfl, tD _ _ upd_same⟩, by rw [hgl, hwl], hgm⟩
        rintro D2 ys2 H6 q hD2 k6 hys6 hyl6 ⟨hd6, hl6, hit⟩ hq
        have kq : Kp [] H6 (upd H6 q (.tup ys2)) := Kp.new hq
        refine ⟨two_le, fun r hr => ?_⟩
        have kr : Kp [] (upd H6 q (.tup ys2)) (upd (upd H6 q (.tup ys2)) r (.tup [.ref p, .ref q])) := Kp.new hr
        have kf := kq.trans kr
        obtain ⟨xs, x1, x2, x3⟩ := some_lots hit
        refine k _ tel' xs _ ((k15.trans k6).trans kf.any) (hd6.kp kf (fun z => nomatch z) (fun z => nomatch z)) ⟨r, _, _, rfl, upd_same, ⟨p, rfl, kf.tup (k6.tup hp5)⟩, q, ys2, rfl, kr.get upd_same, x1, fun i x y e1 e2 => (x2 i x y e1 e2).tk kf.tk⟩
          ⟨by omega, fun t ht => by have := ht9 t ht; omega, by omega, fun gs hgs => ⟨(x3 gs hgs).1, fun g hg => by have := (x3 gs hgs).2 g hg; omega⟩⟩ (by omega)
    refine ⟨_, rfl, rfl, _, rfl, ?_⟩
    rw [show decide (V.int (kind : Int) = V.int 0) = false from by simp [hB0]]
    refine iteF ⟨_, rfl, t, _, rfl, .inr (SqT.of ht2), _, _, rfl, rfl, _, rfl, ?_⟩
    rw [decide_eq_false (by rw [vz_len]; omega)]
    refine iteF ?_
    dsimp only [tNext, tSeq]
    refine ⟨_, rfl, _, rfl, t, _, rfl, .inr (SqT.of ht2), d, c, tel.length, by rw [vz_len]; rfl, hd2, one, by omega, fun at' H3 hat k3 hd3 => ?_⟩
    have k13 := k12.trans k3
    have ht3 := k3.tup ht2
    have hbs3 := k3.tup hbs2
    have hss : at' < ss.length := by omega
    refine ⟨_, rfl, rfl, _, rfl, ?_⟩
    refine ite2 ?_ ?_
    · -- another telling
      refine r_pair ⟨_, rfl, _, rfl, _, rfl, r_slT ht3 fun c1 H4 k4 h4 => ?_⟩
      have ht4 := k4.tup ht3
      refine ⟨_, rfl, _, rfl, t, _, _, _, rfl, rfl, SqT.of ht4, at_of rfl (vz_some (get_of (d := 0) hat)), _, _, rfl, rfl, .inl ⟨_, rfl, _, _, rfl, rfl, (by show (0 : Int) < 10; decide), one_le, fun p hp => ?_⟩⟩
      have kp : Kp [] H4 (upd H4 p (.tup [.int (((tel.getD at' 0 : Nat) + 1 : Int) % 10)])) := Kp.new hp
      refine r_catV (kp.tup h4) upd_same (by rw [List.length_take, vz_len]; exact size_le (by simp; omega)) fun c2 H5 k5 h5 => ?_
      have k45 := kp.trans k5
      refine ⟨_, rfl, _, rfl, _, _, rfl, rfl, _, rfl, r_no ?_⟩
      refine r_slD' (k := at' + 1) (Int.natCast_add at' 1).symm (k45.tup ht4) fun c3 H6 k6 h6 => ?_
      refine r_catV (k6.tup h5) h6 (by rw [List.length_append, List.length_take, List.length_drop, vz_len]; exact size_le (by simp; omega)) fun c4 H7 k7 h7 => ?_
      have k47 := (k45.trans k6).trans k7
      have k37 := k4.trans k47
      refine ⟨_, rfl, two_le, fun r hr => ?_⟩
      have kr : Kp [] H7 (upd H7 r (.tup [.ref c4, .ref bs])) := Kp.new hr
      have kf := k37.trans kr
      dsimp only at h7
      rw [splice (by rw [vz_len]; exact hat), show V.int (((tel.getD at' 0 : Nat) + 1 : Int) % 10) = .int (((tel.getD at' 0 + 1) % 10 : Nat) : Int) from congrArg V.int (by omega), ← vz_set] at h7
      exact k _ (tel.set at' ((tel.getD at' 0 + 1) % 10)) steps _ (k13.trans kf.any) (hd3.kp kf (fun z => nomatch z) (fun z => nomatch z)) ⟨r, _, _, rfl, upd_same, ⟨c4, rfl, kr.tup h7⟩, bs, ss, rfl, kf.tup hbs3, hsl, fun i x y e1 e2 => (((hsx i x y e1 e2).tk k2.tk).tk k3.tk).tk kf.tk⟩ (sok.setTel _ _ (by omega)) (by rw [List.length_set]; exact hB12)
    dsimp only [tNext, tSeq]
    refine ⟨_, rfl, rfl, _, rfl, ?_⟩
    refine ite2 ?_ ?_
    · -- other goals of one standing
      have hs1' : at' < steps.length := by omega
      obtain ⟨cs, ecs, hcs⟩ := (((hsx at' _ _ (List.getElem?_eq_getElem hss) (List.getElem?_eq_getElem hs1')).tk k2.tk).tk k3.tk)
      have lg := sok.each _ (List.getElem_mem hs1')
      refine ⟨_, rfl, _, rfl, pa, _, _, _, rfl, rfl, SqT.of (k13.tup hpa), at_of (j := 1) rfl rfl, aw, _, rfl, .inr (SqT.of (k13.tup haw)), d, c, M.ws.length, by rw [hwl]; rfl, hd3, w1, by omega, fun wk H4 hwk k4 hd4 => ?_⟩
      have k14 := k13.trans k4
      have hcs4 := k4.tup hcs
      refine ⟨_, rfl, _, rfl, bs, _, _, _, rfl, rfl, SqT.of (k4.tup hbs3), at_of rfl (List.getElem?_eq_getElem hss), ?_⟩
      rw [ecs]
      refine ⟨_, rfl, _, rfl, r_slT hcs4 fun c1 H5 k5 h5 => ?_⟩
      refine ⟨_, rfl, _, rfl, t, _, rfl, .inr (SqT.of (k5.tup (k4.tup ht3))), d, c, tel.length, by rw [vz_len]; rfl, hd4.kp k5 (fun z => nomatch z) (fun z => nomatch z), one, by omega, fun g H6 hg k6 hd6 => ⟨one_le, fun p hp => ?_⟩⟩
      have kp : Kp [] H6 (upd H6 p (.tup [.int (g : Int)])) := Kp.new hp
      refine r_catV (kp.tup (k6.tup h5)) upd_same (by rw [List.length_take, vz_len]; exact size_le (by simp; omega)) fun c2 H7 k7 h7 => ?_
      have k57 := (k6.trans kp.any).trans k7.any
      have hbs7 := k57.tup (k5.tup (k4.tup hbs3))
      refine ⟨_, rfl, _, rfl, bs, _, _, _, rfl, rfl, SqT.of hbs7, at_of rfl (List.getElem?_eq_getElem hss), ?_⟩
      rw [ecs]
      refine ⟨_, rfl, _, _, rfl, rfl, _, rfl, r_no ?_⟩
      refine r_slD' (k := wk + 1) (Int.natCast_add wk 1).symm (k57.tup (k5.tup hcs4)) fun c3 H8 k8 h8 => ?_
      refine r_catV (k8.tup h7) h8 (by rw [List.length_append, List.length_take, List.length_drop, vz_len]; exact size_le (by simp; omega)) fun c4 H9 k9 h9 => ?_
      have hwl2 : wk < steps[at'].length := by rw [lg.1]; exact hwk
      have eg : vz (steps[at'].set wk g) = (vz steps[at']).take wk ++ [V.int (g : Int)] ++ (vz steps[at']).drop (wk + 1) := by rw [splice (by rw [vz_len]; exact hwl2), vz_set]
      rw [← eg] at h9
      have k59 := (k57.trans k8.any).trans k9.any
      have k49 := k5.any.trans k59
      have ht9 := k49.tup (k4.tup ht3)
      have hbs9 := k49.tup (k4.tup hbs3)
      dsimp only
      refine r_pair ⟨_, rfl, _, rfl, _, rfl, _, rfl, r_slT hbs9 fun e1' H10 k10 h10 => ?_⟩
      refine ⟨_, rfl, one_le, fun p2 hp2 => ?_⟩
      have kp2 : Kp [] H10 (upd H10 p2 (.tup [.ref c4])) := Kp.new hp2
      refine r_catV (kp2.tup h10) upd_same (by rw [List.length_take]; exact size_le (by simp; omega)) fun e2' H11 k11 h11 => ?_
      have k911 := (k10.trans kp2).trans k11
      refine ⟨_, rfl, _, rfl, _, _, rfl, rfl, _, rfl, r_no ?_⟩
      refine r_slD' (k := at' + 1) (Int.natCast_add at' 1).symm (k911.tup hbs9) fun e3' H12 k12' h12 => ?_
      refine r_catV (k12'.tup h11) h12 (by rw [List.length_append, List.length_take, List.length_drop]; exact size_le (by simp; omega)) fun e4' H13 k13' h13 => ?_
      rw [splice hss] at h13
      refine ⟨two_le, fun r hr => ?_⟩
      have kr : Kp [] H13 (upd H13 r (.tup [.ref t, .ref e4'])) := Kp.new hr
      have k913 := (k911.trans k12').trans k13'
      have kf := k913.trans kr
      have hd13 := ((hd6.kp kp (fun z => nomatch z) (fun z => nomatch z)).kp k7 (fun z => nomatch z) (fun z => nomatch z)).kp (((k8.trans k9).trans k913).trans kr) (fun z => nomatch z) (fun z => nomatch z)
      have kall := ((k14.trans k49).trans k913.any).trans kr.any
      have tf : Tk H1 (upd H13 r (.tup [.ref t, .ref e4'])) := ((((k2.trans k3).trans k4).tk.trans k49.tk).trans k913.tk).trans kr.tk
      have hrel := set_rel (R := fun x y => T1 (upd H13 r (.tup [.ref t, .ref e4'])) x y) (a := at') (v := .ref c4) (y := steps[at'].set wk g) hsl (fun i x y e1 e2 => (hsx i x y e1 e2).tk tf) ⟨c4, rfl, kf.tup h9⟩
      exact k _ tel (steps.set at' (steps[at'].set wk g)) _ kall hd13 ⟨r, _, _, rfl, upd_same, ⟨t, rfl, kf.tup ht9⟩, e4', ss.set at' (.ref c4), rfl, kr.tup h13, by rw [List.length_set, List.length_set]; exact hsl, hrel⟩
        (sok.setSteps at' _ ⟨by rw [List.length_set]; exact lg.1, fun z hz => (List.mem_or_eq_of_mem_set hz).elim (lg.2 z) fun e => e ▸ hg⟩) hB12
    · dsimp only [tNext]
      refine ⟨_, rfl, _, rfl, two_le, fun r hr => ?_⟩
      have kr : Kp [] H3 (upd H3 r (.tup [.ref t, .ref bs])) := Kp.new hr
      exact k _ tel steps _ (k13.trans kr.any) (hd3.kp kr (fun z => nomatch z) (fun z => nomatch z)) ⟨r, _, _, rfl, upd_same, ⟨t, rfl, kr.tup ht3⟩, bs, ss, rfl, kr.tup hbs3, hsl, fun i x y e1 e2 => (((hsx i x y e1 e2).tk k2.tk).tk k3.tk).tk kr.tk⟩ sok hB12

abbrev s_law_wrong : Stmt := top 68
theorem sc_law_wrong : FnScope ["_law_parts_here", "_law_made_here", "_law_telling", "_law_steps", "_law_first", "_law_known", "_law_layer", "_law_later", "_law_row_here", "_law_pair", "_law_work", "_law_goal"] ["_law_parts_here", "_law_made_here", "_law_telling", "_law_steps"] (defScope s_law_wrong) := ⟨rfl, rfl, rfl, by decide +kernel, rfl, by decide +kernel, by decide +kernel⟩
def ItB (H : Hp) (x : V) (y : List Nat × (Nat × List Nat)) : Prop := ∃ a v b, x = .ref a ∧ H a = some (.tup [v, .ref b]) ∧ T1 H v y.1 ∧ PairT H b y.2
theorem ItB.tk {H H' : Hp} {x : V} {y : List Nat × (Nat × List Nat)} (t : Tk H H') (h : ItB H x y) : ItB H' x y := let ⟨a, v, b, e, h1, h2, h3⟩ := h; ⟨a, v, b, e, t _ _ h1, h2.tk t, h3.keeps t⟩
theorem NDict.keep {P : Program} {w : World} {H H' : Hp} {d : Addr} {kn : List (Nat × List Nat)} (h : NDict P w H d kn) (e : ∀ o, H d = some o → H' d = some o) (t : Tk H H') : NDict P w H' d kn :=
  let ⟨h1, h2, xs, h3, h4⟩ := h
  ⟨h1, h2, xs, e _ h3, h4.keeps t⟩
theorem NDict.not_tup {P : Program} {w : World} {H : Hp} {d : Addr} {kn : List (Nat × List Nat)} (h : NDict P w H d kn) : ∀ xs, H d ≠ some (.tup xs) := fun xs e => by
  obtain ⟨_, _, ys, h3, _⟩ := h
  rw [h3] at e
  unfold ndO at e
  cases e
theorem NDict.ne {P : Program} {w : World} {H : Hp} {d a : Addr} {kn : List (Nat × List Nat)} {ys : List V} (h : NDict P w H d kn) (ha : H a = some (.lst ys)) : a ≠ d := fun e => by
  obtain ⟨_, _, zs, h3, _⟩ := h
  rw [← e, ha] at h3
  unfold ndO at h3
  cases h3
theorem nextB_ok {M : Mach} (ok : M.Ok) {tel : List Nat} {steps : List (List Nat)} (ok1 : StepsOk M.ws.length tel steps) {p : Nat × List Nat} (h : okB tel M p) {w : Nat} (hw : w < M.ws.length) : okB tel M ((sysB tel steps M).next p w) := ⟨step1_lt ok1 h.1 hw, ok.next hw h.2⟩
theorem ok_law_wrong {f : Addr} {fd : FuncData} (F : Fun K "_law_wrong" "_law_wrong" s_law_wrong f fd) (Tx : Txt mg) (G_law_moved : Gf P w K mg base "_law_moved" ["_law_parts_here", "_law_machine_here", "_law_notes_here", "_law_work"] 1 sp_law_moved) : FnOk P w K mg base CX0 2 f fd ["_law_parts_here", "_law_made_here", "_law_telling", "_law_steps"] sp_law_wrong := by
  refine F.ok sc_law_wrong (fun vs H Q E h => ?_) (fun cdv A outer s H vs Q E hr h => ?_)
  · obtain ⟨v1, v2, v3, v4, M, tel, steps, n, res, rfl, hP, hMa, ok, ⟨t1, rfl, ht1⟩, ⟨b1, ss1, rfl, hs1, hl1, hx1⟩, ok1, B0, k⟩ := h
    rfl
  · obtain ⟨v1, v2, v3, v4, M, tel, steps, n, res, rfl, hP, hMa, ok, ⟨t1, rfl, ht1⟩, ⟨b1, ss1, rfl, hs1, hl1, hx1⟩, ok1, B0, k⟩ := h
    have hu := hu_of hr
    have hu9 := room9 hr
    refine ⟨_, (pss_cons (ps_set (i := 4) sc_law_wrong.nd rfl (Or.inl rfl) (pe_tup (pa_cons pe_int (pa_cons (pe_op (kop_repA (K := K)) (pe_tup (pa_cons pe_int pa_nil)) (pe_ix (kix_tup (K := K)) (pv 0) pe_int (fun _ _ => rfl))) pa_nil))))
        (pss_cons (ps_set (i := 5) sc_law_wrong.nd rfl (Or.inl rfl) (pe_ndisp hu9 (pv 4) pe_bl))
        (pss_cons (ps_set (i := 6) sc_law_wrong.nd rfl (Or.inl rfl) (pe_lst (pa_cons (pe_tup (pa_cons (pe_tup pa_nil) (pa_cons (pv 4) pa_nil))) pa_nil)))
        (pss_cons (ps_while PassesOwn.never (pt_cmpR op_gt (pe_callB (kcall_len (K := K)) (by rfl) Tx.b_len (by decide +kernel) (pa_cons (pv 6) pa_nil)) pe_int (nomark _))
        (pss_cons (ps_set (i := 7) sc_law_wrong.nd rfl (Or.inl rfl) (pe_lst pa_nil))
        (pss_cons (ps_for PassesOwn.never rfl (kpi_list (K := K) (pv 6)) (kpg_tup (K := K) rfl (pgs_cons (pg_name (i := 8) sc_law_wrong.nd rfl (Or.inl rfl)) (pgs_cons (pg_name (i := 9) sc_law_wrong.nd rfl (Or.inl rfl)) pgs_nil)))
        (pss_cons (ps_if (pt_cmpR op_ne (pe_ix (kix_tup (K := K)) (pv 2) (pe_ix (kix_tup (K := K)) (pv 9) pe_int (fun _ _ => rfl)) (fun _ _ => rfl)) (pe_dget hu (pe_ix (kix_tup (K := K)) (pv 1) pe_int (fun _ _ => rfl)) (pe_ix (kix_tup (K := K)) (pv 9) pe_int (fun _ _ => rfl)) (fun _ _ => rfl)) (nomark _)) (pss_one (ps_ret (pv 8))) pss_nil)
        (pss_one (ps_for PassesOwn.never rfl (pi_range1 (by rfl) Tx.b_range (pa_cons (pe_callB (kcall_len (K := K)) (by rfl) Tx.b_len (by decide +kernel) (pa_cons (pe_ix (kix_tup (K := K)) (pv 0) pe_int (fun _ _ => rfl)) pa_nil)) pa_nil)) (pg_name (i := 10) sc_law_wrong.nd rfl (Or.inl rfl))
        (pss_cons (ps_set (i := 11) sc_law_wrong.nd rfl (Or.inl rfl) (pe_tup (pa_cons (pe_ix (kix_tup (K := K)) (pe_ix (kix_tup (K := K)) (pv 3) (pe_ix (kix_tup (K := K)) (pv 9) pe_int (fun _ _ => rfl)) (fun _ _ => rfl)) (pv 10) (fun _ _ => rfl)) (pa_cons (pe_g G_law_moved (hr.mono (by decide)) (by rfl) (pa_cons (pv 0) (pa_cons (pv 1) (pa_cons (pe_ix (kix_tup (K := K)) (pv 9) pe_int (fun _ _ => rfl)) (pa_cons (pv 10) pa_nil))))) pa_nil))))
        (pss_one (ps_if (pt_cmp (pc_nnotin hu9 (pv 11) (pv 5))) (pss_cons (ps_nput hu9 (pv 5) (pv 11) pe_bl rfl)
        (pss_one (ps_expr (kpe_bm (K := K) (pe_bm PySem.F.plainAttrs_list PySem.F.slot_list_append PySem.F.type_list_append mt_append (pv 7) (pa_cons (pe_tup (pa_cons (pe_op (kop_catA (K := K)) (pv 8) (pe_tup (pa_cons (pv 10) pa_nil))) (pa_cons (pv 11) pa_nil))) pa_nil)))))) pss_nil)))))))
        (pss_one (ps_set (i := 6) sc_law_wrong.nd rfl (Or.inl rfl) (pv 7))))))
        (pss_one (ps_ret pe_non)))))), ?_⟩
    have w10 := ok.off.w10
    have d1 := ok.off.d1
    have d4 := ok.off.d4
    have hP' := hP
    have hMa' := hMa
    obtain ⟨pa, pw, rfl, hpa, aw, wsv, rfl, haw, hwl, hwx⟩ := hP
    obtain ⟨ma, mv1, mv2, mv3, rfl, hma, hm1, hm2, hm3⟩ := hMa
    generalize eS : sysB tel steps M = S at B0
    have Snw : S.nw = M.ws.length := by rw [← eS]; rfl
    have Sbad : ∀ y, S.bad y = decide (tel.getD y.1 0 ≠ M.tl y.2) := fun y => by rw [← eS]; rfl
    have Snext : ∀ y w, S.next y w = (step1 steps y.1 w, M.next y.2 w) := fun y w => by rw [← eS]; rfl
    refine ⟨one_le, fun e0 ne0 => ⟨_, rfl, pa, _, _, _, rfl, rfl, SqT.of ((Kp.new ne0).get hpa), at_of (j := 0) rfl rfl, ?_⟩⟩
    refine r_rep0 (n := M.d) upd_same d1 (by omega) fun v0 H1 k1' t0 => ⟨two_le, fun fa nfa => ?_⟩
    have k1 : Kp [] H H1 := (Kp.new ne0).trans k1'
    obtain ⟨c0, rfl, hc0⟩ := t0
    have kfa : Kp [] H1 (upd H1 fa (.tup [.int 0, .ref c0])) := Kp.new nfa
    have p2 : PairT (upd H1 fa (.tup [.int 0, .ref c0])) fa (0, M.first) := ⟨c0, upd_same, kfa.get hc0⟩
    have k2 := k1.trans kfa
    generalize upd H1 fa (.tup [.int 0, .ref c0]) = H2 at k2 p2
    refine fun kd nkd => ⟨_, rfl, upd_same, fa, (0, M.first), rfl, p2.keeps (Kp.new (ch := []) nkd).tk, fun ob hnd => ?_⟩
    have nkH : H kd = none := k2.free _ nkd
    have kk : Kp [] H2 (upd (upd H2 kd (.dT [])) kd ob) := (Kp.new nkd).mut nkd
    have k3 := k2.trans kk
    have p3 := p2.keeps kk.tk
    generalize upd (upd H2 kd (.dT [])) kd ob = H3 at k3 p3 hnd
    refine ⟨Nat.zero_le _, fun e1 ne1 => ⟨_, rfl, two_le, fun e2 ne2 => ⟨one_le, fun l0 n0 => ?_⟩⟩⟩
    have kk1 : Kp [] H3 (upd (upd (upd H3 e1 (.tup [])) e2 (.tup [.ref e1, .ref fa])) l0 (.lst [.ref e2])) := ((Kp.new ne1).new' ne2).new' n0
    have hl0 : (upd (upd (upd H3 e1 (.tup [])) e2 (.tup [.ref e1, .ref fa])) l0 (.lst [.ref e2])) l0 = some (.lst [.ref e2]) := upd_same
    have he2 : (upd (upd (upd H3 e1 (.tup [])) e2 (.tup [.ref e1, .ref fa])) l0 (.lst [.ref e2])) e2 = some (.tup [.ref e1, .ref fa]) := by rw [upd_ne (ne_of2 (H := upd (upd H3 e1 (.tup [])) e2 (.tup [.ref e1, .ref fa])) upd_same n0)]; exact upd_same
    have he1 : (upd (upd (upd H3 e1 (.tup [])) e2 (.tup [.ref e1, .ref fa])) l0 (.lst [.ref e2])) e1 = some (.tup []) := ((Kp.new (ch := []) ne2).trans (Kp.new n0)).get upd_same
    have nl0 : H l0 = none := k3.free _ (Kp.free (ch := []) ((Kp.new ne1).new' ne2) _ n0)
    have k4 := k3.trans kk1
    have hnd4 := hnd.keep (fun o e => kk1.get e) kk1.tk
    have p4 := p3.keeps kk1.tk
    generalize upd (upd (upd H3 e1 (.tup [])) e2 (.tup [.ref e1, .ref fa])) l0 (.lst [.ref e2]) = H4 at k4 hnd4 p4 hl0 he2 he1
    refine ⟨fun m σ H' => ∃ known layer l3 x4 x5 x6 x7 x8, Bfs S (Few (okB tel M)) m known layer res ∧ Kp [] H H' ∧ H l3 = none ∧ NDict P w H' kd known ∧ LR ItB H' l3 layer ∧
      σ = [some (.ref pa), some (.ref ma), some (.ref t1), some (.ref b1), some (.ref fa), some (.ref kd), some (.ref l3), x4, x5, x6, x7, x8], ⟨n, [(0, M.first)], [([], (0, M.first))], l0, none, none, none, none, none, B0, k4, nl0, hnd4, LR.one hl0 ⟨e2, .ref e1, fa, rfl, he2, ⟨e1, rfl, he1⟩, p4⟩, rfl⟩, ?_⟩
    rintro m σ H3 ⟨known, layer, l3, x4, x5, x6, x7, x8, B, k3, nl3, hk3, ⟨vs, hl3, hvl, hvx⟩, rfl⟩
    refine ⟨_, rfl, l3, vs, rfl, .inl (SqL.of hl3), _, _, rfl, rfl, _, rfl, ?_⟩
    by_cases hn : layer = []
    · subst hn
      have er := B.nil
      subst er
      rw [decide_eq_false (by rw [hvl]; simp)]
      exact iteF (k .non H3 k3 rfl)
    have hpos : 0 < layer.length := List.length_pos_iff.mpr hn
    rw [decide_eq_true (by rw [hvl]; omega)]
    obtain ⟨⟨gk, gl, gi⟩, look1, look2⟩ := B.look hn
    refine iteT ⟨fun σ H' => (∀ y ∈ layer, S.bad y.2 = false) ∧ ∃ l3 x4 x5 x6 x7 x8, Kp [] H H' ∧ H l3 = none ∧ NDict P w H' kd (S.layer known layer).1 ∧ LR ItB H' l3 (S.layer known layer).2 ∧
      σ = [some (.ref pa), some (.ref ma), some (.ref t1), some (.ref b1), some (.ref fa), some (.ref kd), some (.ref l3), x4, x5, x6, x7, x8], ?_, ?_⟩
    · rintro σ H4 ⟨hall, l3, x4, x5, x6, x7, x8, h1, h2, h3, h4, rfl⟩
      obtain ⟨m', hm', B'⟩ := look2 hall
      exact ⟨m', hm', _, _, l3, x4, x5, x6, x7, x8, B', h1, h2, h3, h4, rfl⟩
    refine ⟨Nat.zero_le _, fun l4 n4 => ?_⟩
    have nl4 : H l4 = none := k3.free _ n4
    have n34 : l3 ≠ l4 := ne_of2 hl3 n4
    have kl4 : Kp [] H3 (upd H3 l4 (.lst [])) := Kp.new n4
    refine ⟨_, rfl, l3, rfl, ⟨_, SqL.of (kl4.get hl3)⟩, ?_⟩
    refine for_it (walk_list (K := K) (a := l3) (xs := vs)) (fun i σ H' => (∀ (j : Nat) y, j < i → layer[j]? = some y → S.bad y.2 = false) ∧ Kp [] H H' ∧ H' l3 = some (.lst vs) ∧ Tk H3 H' ∧
      NDict P w H' kd (S.part known layer i).1 ∧ LR ItB H' l4 (S.part known layer i).2 ∧
      ∃ x5 x6 x7 x8, σ = [some (.ref pa), some (.ref ma), some (.ref t1), some (.ref b1), some (.ref fa), some (.ref kd), some (.ref l3), some (.ref l4), x5, x6, x7, x8])
      ⟨fun j y h => by omega, k3.trans kl4, kl4.get hl3, kl4.tk, hk3.keep (fun o e => kl4.get e) kl4.tk, LR.nil upd_same, _, _, _, _, rfl⟩ (fun i σ H' hi q => SqL.of q.2.2.1) ?_ ?_
    · rintro i x σ H5 H4 hi ⟨hbad, k4, hl4, t4, hk4, hlr4, x5, x6, x7, x8, rfl⟩ ⟨rfl, hx⟩
      obtain ⟨⟨row, here, ns⟩, ey⟩ : ∃ y, layer[i]? = some y := ⟨_, List.getElem?_eq_getElem (show i < layer.length by omega)⟩
      obtain ⟨a, v, b, rfl, ha, hv, cc, hb1, hb2⟩ := hvx i x _ hx ey
      obtain ⟨glen, gh, gt⟩ := gi _ (List.mem_of_getElem? ey)
      dsimp only at glen gh gt ha hv hb1 hb2
      have hlen := S.part_len known layer i (by omega)
      rw [Snw] at hlen
      have inw : i * M.ws.length ≤ 10000 * 10 := Nat.mul_le_mul (by omega) w10
      refine ⟨a, _, rfl, SqT.of (t4 _ _ ha), rfl, _, _, rfl, _, _, rfl, rfl, ?_⟩
      obtain ⟨pt, y, ept, dg, hy⟩ := (hm3.kp k4 NoD.nil).get (mem_allN.mpr gt) (t4 _ _ hb2)
      refine ⟨_, rfl, _, rfl, b, _, _, _, rfl, rfl, SqT.of (t4 _ _ hb1), at_of (j := 0) rfl rfl, t1, _, _, _, rfl, rfl, SqT.of (k4.tup ht1), at_of rfl (vz_some (get_of (d := 0) gh)), _, rfl, ma, _, _, _, rfl, rfl, SqT.of (k4.tup hma), at_of (j := 2) rfl rfl, _, rfl, b, _, _, _, rfl, rfl, SqT.of (t4 _ _ hb1), at_of (j := 1) rfl rfl, pt, y, ept, dg, ?_⟩
      subst hy
      refine ⟨rfl, _, rfl, ?_⟩
      by_cases hb : tel.getD here 0 = M.tl ns
      · have hbf : S.bad (here, ns) = false := by rw [Sbad]; exact decide_eq_false fun h => h hb
        rw [show (!decide (V.int (tel.getD here 0 : Nat) = V.int (M.tl ns : Nat))) = false from by rw [hb]; simp]
        refine iteF ?_
        dsimp only [tNext]
        have hs1' : here < steps.length := by rw [ok1.len]; exact gh
        refine ⟨_, rfl, pa, _, _, _, rfl, rfl, SqT.of (k4.tup hpa), at_of (j := 1) rfl rfl, aw, _, rfl, .inr (SqT.of (k4.tup haw)), _, rfl, by omega, by omega, ?_⟩
        refine for_it (walk_range (lo := 0) (n := ((wsv.length : Nat) : Int).toNat)) (fun m σ H' => Kp [] H H' ∧ H' l3 = some (.lst vs) ∧ Tk H3 H' ∧
          NDict P w H' kd (S.upTo (row, (here, ns)) (S.part known layer i) m).1 ∧ LR ItB H' l4 (S.upTo (row, (here, ns)) (S.part known layer i) m).2 ∧
          ∃ x7 x8, σ = [some (.ref pa), some (.ref ma), some (.ref t1), some (.ref b1), some (.ref fa), some (.ref kd), some (.ref l3), some (.ref l4), some v, some (.ref b), x7, x8]) ⟨k4, hl4, t4, hk4, hlr4, _, _, rfl⟩ (fun _ _ _ _ _ => trivial) ?_ ?_
        · rintro m x σ H7 H6 hm ⟨k6, hl6, t6, hk6, hlr6, x7, x8, rfl⟩ ⟨rfl, rfl⟩
          have hm2 : m < M.ws.length := by omega
          obtain ⟨gs1, eg1, ea1, _⟩ := step1_at ok1 gh hm2
          have gs2 : here < ss1.length := by omega
          obtain ⟨c1, ec1, hc1⟩ := hx1 here _ _ (List.getElem?_eq_getElem gs2) eg1
          have hbb := t6 _ _ hb1
          refine ⟨_, rfl, _, rfl, b, _, _, _, rfl, rfl, SqT.of hbb, at_of (j := 0) rfl rfl, b1, _, _, _, rfl, rfl, SqT.of (k6.tup hs1), at_of rfl (List.getElem?_eq_getElem gs2), _, rfl, c1, _, _, _, by rw [ec1], rfl, SqT.of (k6.tup hc1), at_of (j := m) (by omega) (vz_some ea1),
            _, rfl, _, rfl, _, rfl, b, _, _, _, rfl, rfl, SqT.of hbb, at_of (j := 1) rfl rfl, _, rfl, .ref pa, .ref ma, .ref cc, M, ns, m, by simp, hP'.kp k6, hMa'.kp k6 NoD.nil, ok, ⟨cc, rfl, t6 _ _ hb2⟩, gt, hm2, fun v' H7 k7 t7 => ⟨two_le, fun e ne => ?_⟩⟩
          obtain ⟨cn, rfl, hcn⟩ := t7
          have ke : Kp [] H7 (upd H7 e (.tup [.int (step1 steps here m : Int), .ref cn])) := Kp.new ne
          have k8 := k7.trans ke
          have he : PairT (upd H7 e (.tup [.int (step1 steps here m : Int), .ref cn])) e (S.next (here, ns) m) := ⟨cn, by rw [upd_same, Snext], by rw [Snext]; exact ke.get hcn⟩
          have hk8 := hk6.keep (fun o e => k8.get e) k8.tk
          have hl8 := k8.get hl6
          generalize upd H7 e (.tup [.int (step1 steps here m : Int), .ref cn]) = H8 at k8 he hk8 hl8
          have ul := S.upTo_len (row, (here, ns)) (S.part known layer i) m
          refine ⟨_, rfl, _, rfl, kd, e, _, _, rfl, rfl, hk8, he, _, rfl, ?_⟩
          rw [S.upTo_succ]
          unfold Sys.add
          by_cases mem : S.next (here, ns) m ∈ (S.upTo (row, (here, ns)) (S.part known layer i) m).1
          · rw [decide_eq_true mem, if_pos mem]
            exact iteF ⟨k6.trans k8, hl8, t6.trans k8.tk, hk8, hlr6.tk @ItB.tk k8.tk fun vs h => k8.get h, _, _, rfl⟩
          · rw [decide_eq_false mem, if_neg mem]
            refine iteT ⟨_, rfl, _, rfl, kd, e, _, _, rfl, rfl, hk8, he, mem, size_lt (by omega), fun ob mu hk9 => ?_⟩
            have t9 : Tk H8 (upd H8 kd ob) := Tk.put hk8.not_tup
            obtain ⟨ys, hy, hyl, hyx⟩ := hlr6
            have hy8 := k8.get hy
            have n4k : l4 ≠ kd := hk8.ne hy8
            have n3k : l3 ≠ kd := hk8.ne hl8
            have hy9 : (upd H8 kd ob) l4 = some (.lst ys) := by rw [upd_ne n4k]; exact hy8
            have hl9 : (upd H8 kd ob) l3 = some (.lst vs) := by rw [upd_ne n3k]; exact hl8
            have he9 := he.keeps t9
            have t39 : Tk H3 (upd H8 kd ob) := (t6.trans k8.tk).trans t9
            have t89 : Tk H6 (upd H8 kd ob) := k8.tk.trans t9
            have k9 : Kp [] H (upd H8 kd ob) := (k6.trans k8).mut nkH
            have hv9 := hv.tk t39
            generalize upd H8 kd ob = H9 at hk9 hy9 hl9 he9 t39 t89 k9 hv9
            refine ⟨_, rfl, .inl ⟨rfl, ys, SqL.of hy9⟩, _, rfl, _, rfl, one_le, fun r1 nr1 => ?_⟩
            have kr1 : Kp [] H9 (upd H9 r1 (.tup [.int (0 + (m : Int))])) := Kp.new nr1
            refine r_cat (ns := row) (ms := [m]) (hv9.tk kr1.tk) ⟨r1, rfl, by rw [upd_same]; show some (HO.tup [V.int (0 + (m : Int))]) = some (HO.tup [V.int (m : Int)]); rw [Int.zero_add]⟩ (Nat.le_of_lt (size_lt (by show row.length + 1 ≤ _; omega))) fun y H10 k10 ty => ?_
            have k910 := kr1.trans k10
            refine ⟨_, rfl, two_le, fun r2 nr2 => ?_⟩
            have kr2 : Kp [] H10 (upd H10 r2 (.tup [y, .ref e])) := Kp.new nr2
            have k11 := k910.trans kr2
            have hy11 := k11.get hy9
            have hl11 := k11.get hl9
            refine ⟨l4, ys, _, rfl, rfl, hy11, size_lt (by omega), ?_⟩
            have tp : Tk (upd H10 r2 (.tup [y, .ref e])) (upd (upd H10 r2 (.tup [y, .ref e])) l4 (.lst (ys ++ [.ref r2]))) := Tk.put fun xs e => by rw [hy11] at e; cases e
            refine ⟨(k9.trans k11).mut nl4, by rw [upd_ne n34]; exact hl11, (t39.trans k11.tk).trans tp, (hk9.keep (fun o e => k11.get e) k11.tk).keep (fun o e => by rw [upd_ne (Ne.symm n4k)]; exact e) tp, ?_, _, _, rfl⟩
            exact LR.push @ItB.tk hyl hyx (t89.trans k11.tk) hy11 ⟨r2, y, e, rfl, upd_same, ty.tk kr2.tk, he9.keeps k11.tk⟩
        · rintro σ H6 ⟨k6, hl6, t6, hk6, hlr6, x7, x8, rfl⟩
          have ew : ((wsv.length : Nat) : Int).toNat = S.nw := by rw [Snw]; omega
          rw [ew, S.upTo_all, ← S.part_succ ey] at hk6 hlr6
          refine ⟨fun j y hj e => ?_, k6, hl6, t6, hk6, hlr6, _, _, _, _, rfl⟩
          by_cases hji : j < i
          · exact hbad j y hji e
          · have : j = i := by omega
            subst this
            rw [ey] at e
            injection e with e
            subst e
            exact hbf
      · have hbt : S.bad (here, ns) = true := by rw [Sbad]; exact decide_eq_true hb
        rw [show (!decide (V.int (tel.getD here 0 : Nat) = V.int (M.tl ns : Nat))) = true from by rw [decide_eq_false (fun e => hb (by injection e with e; exact_mod_cast e))]; rfl]
        have er := look1 i _ ey hbad hbt
        exact iteT ⟨_, rfl, k v H4 k4 (by rw [er]; exact hv.tk t4)⟩
    · rintro σ H4 ⟨hbad, k4, hl4, t4, hk4, hlr4, x5, x6, x7, x8, rfl⟩
      rw [hvl, S.part_all] at hk4 hlr4
      refine ⟨_, rfl, fun y hy => ?_, l4, _, _, _, _, _, k4, nl4, hk4, hlr4, rfl⟩
      obtain ⟨j, hj, e⟩ := List.getElem_of_mem hy
      exact hbad j y (by omega) (by rw [List.getElem?_eq_getElem hj, e])

abbrev s_law : Stmt := top 69
theorem sc_law : FnScope ["_law_script", "_law_dice_here", "_law_turn", "_law_parts_here", "_law_office", "_law_made_here", "_law_machine_here", "_law_telling", "_law_steps", "_law_book", "_law_due", "_law_found", "_law_flag", "_law_again", "_law_line"] ["_law_script"] (defScope s_law) := ⟨rfl, rfl, rfl, by decide +kernel, rfl, by decide +kernel, by decide +kernel⟩
def dR : Option (List Nat) → PyData
  | none => .none
  | some r => dT r
theorem RowV.dp {K : PySem.W.Frag} {H : Hp} {v : V} {res : Option (List Nat)} (h : RowV H v res) : Dp K H v (dR res) := by
  cases res with
  | none => cases h; exact .non
  | some r => exact T1.dp h
theorem sh_R (res : Option (List Nat)) : SeqAt.shaped (dR res) = true := by
  cases res with
  | none => decide
  | some r => exact sh_T r
theorem RowV.non {H : Hp} {v : V} {res : Option (List Nat)} (h : RowV H v res) : decide (v = V.non) = res.isNone := by
  cases res with
  | none => cases h; rfl
  | some r => obtain ⟨a, rfl, _⟩ := h; rfl
theorem ok_law {f : Addr} {fd : FuncData} (F : Fun K "law" "law" s_law f fd) (Tx : Txt mg) (fB : FB K CBook) (C_Book : Gc P w K mg base "Book" CBook ["self", "office", "telling", "steps"] 4 (sp_Book_init K COffice CBook)) (G_law_dice : Gf P w K mg base "_law_dice" ["_law_script"] 1 (sp_law_dice K)) (G_law_machine : Gf P w K mg base "_law_machine" ["_law_office", "_law_machine_here"] 8 (sp_law_machine K COffice CMachine)) (G_law_machine_parts : Gf P w K mg base "_law_machine_parts" ["_law_dice_here", "_law_parts_here"] 2 sp_law_machine_parts) (G_law_made : Gf P w K mg base "_law_made" ["_law_parts_here"] 7 (sp_law_made K COffice)) (G_law_parts : Gf P w K mg base "_law_parts" ["_law_dice_here", "_law_most"] 2 sp_law_parts) (G_law_row : Gf P w K mg base "_law_row" ["_law_dice_here", "_law_parts_here", "_law_most"] 2 sp_law_row) (G_law_some_book : Gf P w K mg base "_law_some_book" ["_law_dice_here", "_law_parts_here", "_law_made_here"] 4 sp_law_some_book) (G_law_wrong : Gf P w K mg base "_law_wrong" ["_law_parts_here", "_law_made_here", "_law_telling", "_law_steps"] 2 sp_law_wrong) (G_is_for : Gf P w K mg base "is_for" ["book", "thing"] 6 (sp_is_for K COffice CMachine)) (G_told : Gf P w K mg base "told" ["book", "row"] 7 (sp_told K COffice)) (G_told_there : Gf P w K mg base "told_there" ["machine", "row"] 6 (sp_told_there K COffice CMachine)) (G_wrong_row : Gf P w K mg base "wrong_row" ["book", "machine"] 6 (sp_wrong_row K COffice CMachine)) : FnOk P w K mg base CX0 9 f fd ["_law_script"] (sp_law K) := by
  refine F.ok sc_law (fun vs H Q E h => ?_) (fun cdv A outer s H vs Q E hr h => ?_)
  · obtain ⟨a, ns, rfl, ha, h63, k⟩ := h
    rfl
  · obtain ⟨a, ns, rfl, ha, h63, k⟩ := h
    have hu2 := room2 hr
    refine ⟨_, (pss_cons (ps_set (i := 1) sc_law.nd rfl (Or.inl rfl) (pe_g G_law_dice (hr.mono (by decide)) (by rfl) (pa_cons (pv 0) pa_nil)))
        (pss_cons (ps_for PassesOwn.never rfl (pi_range1 (by rfl) Tx.b_range (pa_cons pe_int pa_nil)) (pg_name (i := 2) sc_law.nd rfl (Or.inl rfl))
        (pss_cons (ps_set (i := 3) sc_law.nd rfl (Or.inl rfl) (pe_g G_law_parts (hr.mono (by decide)) (by rfl) (pa_cons (pv 1) (pa_cons pe_int pa_nil))))
        (pss_cons (ps_set (i := 4) sc_law.nd rfl (Or.inl rfl) (pe_g G_law_made (hr.mono (by decide)) (by rfl) (pa_cons (pv 3) pa_nil)))
        (pss_cons (ps_set (i := 5) sc_law.nd rfl (Or.inl rfl) (pe_g G_law_machine_parts (hr.mono (by decide)) (by rfl) (pa_cons (pv 1) (pa_cons (pv 3) pa_nil))))
        (pss_cons (ps_set (i := 6) sc_law.nd rfl (Or.inl rfl) (pe_g G_law_machine (hr.mono (by decide)) (by rfl) (pa_cons (pv 4) (pa_cons (pv 5) pa_nil))))
        (pss_cons (ps_asg (pe_g G_law_some_book (hr.mono (by decide)) (by rfl) (pa_cons (pv 1) (pa_cons (pv 3) (pa_cons (pv 5) pa_nil)))) (kpg_tup (K := K) rfl (pgs_cons (pg_name (i := 7) sc_law.nd rfl (Or.inl rfl)) (pgs_cons (pg_name (i := 8) sc_law.nd rfl (Or.inl rfl)) pgs_nil))))
        (pss_cons (ps_set (i := 9) sc_law.nd rfl (Or.inl rfl) (pe_c C_Book (hr.mono (by decide)) (by rfl) (pa_cons (pv 4) (pa_cons (pv 7) (pa_cons (pv 8) pa_nil)))))
        (pss_cons (ps_set (i := 10) sc_law.nd rfl (Or.inl rfl) (pe_g G_law_wrong (hr.mono (by decide)) (by rfl) (pa_cons (pv 3) (pa_cons (pv 5) (pa_cons (pv 7) (pa_cons (pv 8) pa_nil))))))
        (pss_cons (ps_set (i := 11) sc_law.nd rfl (Or.inl rfl) (pe_g G_wrong_row (hr.mono (by decide)) (by rfl) (pa_cons (pv 9) (pa_cons (pv 6) pa_nil))))
        (Evl.pss_cut (ps_if (PW.pt (pw_or (pt_cmpR (kop_neD (K := K) hr.units) (pv 11) (pv 10) (nomark _)) (pw_or1 (PW.pt (pw_and (pt_cmpR op_notN (pv 10) pe_non (nomark _)) (pw_and1 (pt_not (pt_val (pe_callB (kcall_isi (K := K)) (by rfl) Tx.b_isinstance (by decide +kernel) (pa_cons (pv 11) (pa_cons (pe_ty "tuple" (by rfl) Tx.b_tuple (by decide +kernel)) pa_nil))))))))))) (pss_one (ps_ret pe_bl)) pss_nil)
        (pss_cons (ps_set (i := 12) sc_law.nd rfl (Or.inl rfl) (pe_g G_is_for (hr.mono (by decide)) (by rfl) (pa_cons (pv 9) (pa_cons (pv 6) pa_nil))))
        (pss_cons (ps_if (PW.pt (pw_or (pt_not (pt_val (pe_callB (kcall_isi (K := K)) (by rfl) Tx.b_isinstance (by decide +kernel) (pa_cons (pv 12) (pa_cons (pe_ty "bool" (by rfl) Tx.b_bool (by decide +kernel)) pa_nil))))) (pw_or1 (pt_cmpR op_ne (pv 12) (pe_cmpR op_isN (pv 10) pe_non (nomark _)) (nomark _))))) (pss_one (ps_ret pe_bl)) pss_nil)
        (pss_one (ps_for PassesOwn.never rfl (pi_range1 (by rfl) Tx.b_range (pa_cons pe_int pa_nil)) (pg_name (i := 13) sc_law.nd rfl (Or.inl rfl))
        (pss_cons (ps_set (i := 14) sc_law.nd rfl (Or.inl rfl) (pe_g G_law_row (hr.mono (by decide)) (by rfl) (pa_cons (pv 1) (pa_cons (pv 3) (pa_cons pe_int pa_nil)))))
        (pss_one (ps_if (PW.pt (pw_or (pt_cmpR op_isN (pv 10) pe_non (nomark _)) (pw_or1 (pt_cmpR (kop_ltN (K := K) hu2) (pe_tup (pa_cons (pe_callB (kcall_len (K := K)) (by rfl) Tx.b_len (by decide +kernel) (pa_cons (pv 14) pa_nil)) (pa_cons (pv 14) pa_nil))) (pe_tup (pa_cons (pe_callB (kcall_len (K := K)) (by rfl) Tx.b_len (by decide +kernel) (pa_cons (pv 10) pa_nil)) (pa_cons (pv 10) pa_nil))) (nomark _))))) (pss_one (ps_if (pt_cmpR op_ne (pe_g G_told (hr.mono (by decide)) (by rfl) (pa_cons (pv 9) (pa_cons (pv 14) pa_nil))) (pe_g G_told_there (hr.mono (by decide)) (by rfl) (pa_cons (pv 6) (pa_cons (pv 14) pa_nil))) (nomark _)) (pss_one (ps_ret pe_bl)) pss_nil)) pss_nil)))))))))))))))))
        (pss_one (ps_ret pe_bl)))), ?_⟩
    refine ⟨_, rfl, a, ns, rfl, ha, h63, fun d c H1 k1 nd nc hd1 => ?_⟩
    refine ⟨3, rfl, by decide, by decide, ?_⟩
    refine for_it (walk_range (lo := 0) (n := (3 : Int).toNat)) (fun i σ H' => DiceAt H' d c ∧ ∃ x2 x3 x4 x5 x6 x7 x8 x9 x10 x11 x12 x13 x14, σ = [some (.ref a), some (.ref d), x2, x3, x4, x5, x6, x7, x8, x9, x10, x11, x12, x13, x14]) ⟨hd1, none, none, none, none, none, none, none, none, none, none, none, none, none, rfl⟩ (fun _ _ _ _ _ => trivial) ?_ ?_
    · rintro i x σ H2 H1 hi ⟨hd1, x2, x3, x4, x5, x6, x7, x8, x9, x10, x11, x12, x13, x14, rfl⟩ ⟨rfl, rfl⟩
      refine ⟨_, rfl, d, c, rfl, hd1, fun v3 dd ws H2 k2 hd2 okO hP2 => ?_⟩
      refine ⟨_, rfl, v3, dd, ws, rfl, hP2, okO, fun p4 H3 k3 hO3 => ?_⟩
      refine ⟨_, rfl, _, rfl, d, c, v3, dd, ws, rfl, hd2.kp k3 (fun z => nomatch z) (fun z => nomatch z), hP2.kp k3, okO, fun v5 M H4 k4 hd4 ok ed ew hM4 => ?_⟩
      subst ed
      subst ew
      have n4d : p4 ∉ [d] := by
        obtain ⟨_, dxo, fso, vo, hoo, _⟩ := hO3
        have := (hd2.kp k3 (fun z => nomatch z) (fun z => nomatch z))
        obtain ⟨i1, k1, p1, j1, cells, q1, _⟩ := this
        intro e
        rw [List.mem_singleton.mp e, q1] at hoo
        cases hoo
      have hO4 := hO3.kp k4 n4d
      have hP4 := (hP2.kp k3).kp k4
      refine ⟨_, rfl, _, rfl, p4, v5, M, rfl, hO4, hM4, ok, fun p6 H5 k5 hMa5 => ?_⟩
      obtain ⟨n, order, met⟩ := met_of ok
      have oo := met.ord
      refine ⟨_, rfl, _, rfl, _, rfl, d, c, v3, v5, M, n, order, rfl, hd4.kp k5 (fun z => nomatch z) (fun z => nomatch z), hP4.kp k5, hM4.kp k5 NoD.nil, ok, met, oo.steps ok, fun v tel steps H6 k6 hd6 hb sok t12 => ?_⟩
      obtain ⟨ab, vt, vs, rfl, hab, ht, hs⟩ := hb
      refine ⟨ab, _, rfl, SqT.of hab, rfl, _, _, rfl, _, _, rfl, rfl, ?_⟩
      have hd5 := hd4.kp k5 (fun z => nomatch z) (fun z => nomatch z)
      have nd5 : NoD [d] H5 := fun q kvs e m => by
        obtain ⟨i1, k1, p1, j1, cells, q1, _⟩ := hd5
        rw [List.mem_singleton.mp m, q1] at e
        cases e
      have n6d : p6 ∉ [d] := by
        obtain ⟨_, dxm, fsm, m1, m2, m3, hmm, _⟩ := hMa5
        obtain ⟨i1, k1, p1, j1, cells, q1, _⟩ := hd5
        intro e
        rw [List.mem_singleton.mp e, q1] at hmm
        cases hmm
      have hO6 := (hO4.kp k5 (fun z => nomatch z)).kp k6 n4d
      have hP6 := (hP4.kp k5).kp k6
      have hM6 := (hM4.kp k5 NoD.nil).kp k6 nd5
      have hMa6 := hMa5.kp k6 nd5 n6d
      have w10 := ok.off.w10
      refine ⟨_, rfl, _, rfl, _, rfl, fun x dx nx ndx hne => ?_⟩
      have kx : Kp [] H6 (upd (upd H6 dx (.own x)) x (.ins CBook dx [])) := (Kp.new ndx).new' (by rw [upd_ne (Ne.symm hne)]; exact nx)
      refine ⟨x, dx, p4, vt, vs, M.d, M.ws, tel, steps, rfl, fB, upd_same, hO6.kp kx (fun z => nomatch z), w10, ht.tk kx.tk, T2.tk kx.tk hs, sok, t12, fun H7 k7 hb7 => ⟨rfl, ?_⟩⟩
      have k67 : Kp [] H6 H7 := ⟨fun a o e n => k7.at (kx.get e) (by have := ne_of2 e nx; simpa using this), fun a e => kx.free a (k7.free a e)⟩
      have bk7 : BookAt K H7 x p4 tel steps := ⟨CBook, dx, _, vt, vs, fB, hb7, by unfold bkF; rw [lookup_putF, if_neg (by decide +kernel), lookup_putF, if_neg (by decide +kernel), lookup_putF, if_pos rfl], by unfold bkF; rw [lookup_putF, if_neg (by decide +kernel), lookup_putF, if_pos rfl], ht.tk k67.tk, by unfold bkF; rw [lookup_putF, if_pos rfl], T2.tk k67.tk hs⟩
      obtain ⟨nb, res, B1, B2, hright⟩ := law_facts ok sok t12 oo
      have hO7 := hO6.kp k67 (fun z => nomatch z)
      have hP7 := hP6.kp k67
      have hM7 := hM6.kp k67 NoD.nil
      have hMa7 := hMa6.kp k67 NoD.nil (fun z => nomatch z)
      have hd7 := hd6.kp k67 (fun z => nomatch z) (fun z => nomatch z)
      have ht7 := ht.tk k67.tk
      have hs7 := T2.tk k67.tk hs
      refine ⟨_, rfl, _, rfl, _, rfl, _, rfl, v3, v5, vt, vs, M, tel, steps, nb, res, rfl, hP7, hM7, ok, ht7, hs7, sok, B1, fun v10 H8 k8 hr8 => ?_⟩
      have asked8 : Asked K COffice CMachine H8 x p6 p4 tel steps M res := ⟨bk7.kp k8 (fun z => nomatch z), ⟨hMa7.kp k8 NoD.nil (fun z => nomatch z), hO7.kp k8 (fun z => nomatch z), ok⟩, sok, n, nb, order, met, oo.steps ok, B2⟩
      refine ⟨_, rfl, _, rfl, x, p6, p4, tel, steps, M, res, rfl, asked8, fun v11 H9 k9 hr9 => ?_⟩
      have hr9' := RowV.tk k9.tk hr8
      refine ⟨fun σ H' => σ = [some (.ref a), some (.ref d), some (.int (0 + (i : Int))), some v3, some (.ref p4), some v5, some (.ref p6), some vt, some vs, some (.ref x), some v10, some v11, x12, x13, x14] ∧ H' = H9, ?_, ?_⟩
      · refine ⟨_, rfl, _, rfl, _, _, hr9.dp, hr9'.dp, sh_R _, sh_R _, _, rfl, ?_⟩
        rw [SeqAt.eqv_refl _ (SeqAt.canLay_of_shaped (sh_R res))]
        refine iteF ⟨_, rfl, rfl, _, rfl, ?_⟩
        rw [hr9'.non]
        cases res with
        | none => exact iteF (iteF ⟨rfl, rfl⟩)
        | some r =>
          obtain ⟨b11, rfl, hb11⟩ := hr9
          exact iteT ⟨_, rfl, _, _, _, _, true, rfl, .ty _, .base (.tup hb11), kit_ty (by decide +kernel), true, rfl, iteF ⟨rfl, rfl⟩⟩
      rintro σ H9' ⟨rfl, rfl⟩
      have asked9 : Asked K COffice CMachine H9' x p6 p4 tel steps M res := ⟨asked8.bk.kp k9 (fun z => nomatch z), asked8.both.kp k9, sok, n, nb, order, met, oo.steps ok, B2⟩
      refine ⟨_, rfl, _, rfl, x, p6, p4, tel, steps, M, res, rfl, asked9, fun H10 k10 => ?_⟩
      have hr10 := RowV.tk k10.tk hr9'
      refine ⟨_, rfl, _, _, _, _, true, rfl, .ty _, .base (.bl _), kit_ty (by decide +kernel), true, rfl, iteF ?_⟩
      refine ⟨_, rfl, _, rfl, rfl, rfl, false, by rw [hr10.non]; simp, iteF ?_⟩
      dsimp only [tNext]
      have k710 := (k8.trans k9).trans k10
      have bk10 := bk7.kp k710 (fun z => nomatch z)
      have hO10 := hO7.kp k710 (fun z => nomatch z)
      have hP10 := hP7.kp k710
      have hMa10 := hMa7.kp k710 NoD.nil (fun z => nomatch z)
      have hd10 := hd7.kp k710 (fun z => nomatch z) (fun z => nomatch z)
      have nd10 : NoD [d] H10 := fun q kvs e m => by
        obtain ⟨i1, k1, p1, j1, cells, q1, _⟩ := hd10
        rw [List.mem_singleton.mp m, q1] at e
        cases e
      have nxd : x ∉ [d] := by
        obtain ⟨C, dx, fs, v1, v2, fb, hp, _⟩ := bk10
        obtain ⟨i1, k1, p1, j1, cells, q1, _⟩ := hd10
        intro e
        rw [List.mem_singleton.mp e, q1] at hp
        cases hp
      refine ⟨3, rfl, by decide, by decide, ?_⟩
      refine for_it (walk_range (lo := 0) (n := (3 : Int).toNat)) (fun j σ H' => Kp [d] H10 H' ∧ DiceAt H' d c ∧ ∃ y12 x13 x14, σ = [some (.ref a), some (.ref d), some (.int (0 + (i : Int))), some v3, some (.ref p4), some v5, some (.ref p6), some vt, some vs, some (.ref x), some v10, some v11, y12, x13, x14]) ⟨Kp.refl, hd10, _, _, _, rfl⟩ (fun _ _ _ _ _ => trivial) ?_ ?_
      · rintro j y σ H12 H11 hj ⟨k11, hd11, y12, y13, y14, rfl⟩ ⟨rfl, rfl⟩
        refine ⟨_, rfl, _, rfl, d, c, v3, M.d, M.ws, rfl, hd11, hP10.kp k11, ok.off, fun v14 row H12 k12 hd12 t14 rl rv => ?_⟩
        have k1012 := k11.trans k12
        have hr12 := RowV.tk k1012.tk hr10
        refine ⟨_, rfl, rfl, _, rfl, ?_⟩
        rw [hr12.non]
        have main : ∀ {Hf : Hp}, Kp [] H12 Hf → (res = none ∨ ∃ r, res = some r ∧ nestLt (row.length : Nat) (iz row) (r.length : Nat) (iz r) = true) → Kp [d] H10 Hf ∧ DiceAt Hf d c ∧ T1 Hf v14 row ∧ BookAt K Hf x p4 tel steps ∧ OffAt K COffice Hf p4 M.d M.ws ∧ MachAt K CMachine Hf p6 p4 M ∧ tel.getD (stoodM steps 0 row) 0 = M.tl (M.run M.first row) := by
          intro Hf kf hres
          have kk := k1012.trans kf.any
          exact ⟨kk, hd12.kp kf (fun z => nomatch z) (fun z => nomatch z), t14.tk kf.tk, bk10.kp kk nxd, hO10.kp kk n4d, hMa10.kp kk nd10 n6d, hright row rv hres⟩
        cases hres : res with
        | none =>
          refine iteT (iteT ?_)
          obtain ⟨kk, hdf, tf, bkf, hOf, hMf, eq⟩ := main Kp.refl (.inl hres)
          refine ⟨_, rfl, _, rfl, x, p4, _, M.d, M.ws, row, tel, steps, rfl, bkf, hOf, sok, tf, Nat.le_trans rl (by decide), rv, fun Hg kg => ?_⟩
          refine ⟨_, rfl, _, rfl, p6, p4, _, M, row, rfl, ⟨hMf.kp kg NoD.nil (fun z => nomatch z), hOf.kp kg (fun z => nomatch z), ok⟩, tf.tk kg.tk, Nat.le_trans rl (by decide), rv, fun Hh kh => ⟨rfl, _, rfl, ?_⟩⟩
          rw [eq, show (!decide (V.int (M.tl (M.run M.first row) : Nat) = V.int (M.tl (M.run M.first row) : Nat))) = false from by simp]
          exact iteF ⟨(kk.trans kg.any).trans kh.any, (hdf.kp kg (fun z => nomatch z) (fun z => nomatch z)).kp kh (fun z => nomatch z) (fun z => nomatch z), _, _, _, rfl⟩
        | some r =>
          rw [hres] at hr12
          obtain ⟨b10, rfl, hb10⟩ := hr12
          obtain ⟨b14, e14, hb14⟩ := t14
          subst e14
          refine iteF ⟨_, rfl, b14, _, rfl, .inr (SqT.of hb14), _, rfl, two_le, fun q1 nq1 => ?_⟩
          have kq1 : Kp [] H12 (upd H12 q1 (.tup [.int ((vz row).length : Nat), .ref b14])) := Kp.new nq1
          refine ⟨_, rfl, b10, _, rfl, .inr (SqT.of (kq1.tup hb10)), _, rfl, two_le, fun q2 nq2 => ?_⟩
          have kq2 := kq1.new' (o := .tup [.int ((vz r).length : Nat), .ref b10]) nq2
          refine ⟨q1, q2, b14, b10, (row.length : Nat), (r.length : Nat), iz row, iz r, rfl, rfl, SqT.of (by rw [upd_ne (ne_of2 (H := upd H12 q1 (.tup [.int ((vz row).length : Nat), .ref b14])) upd_same nq2), upd_same, vz_len]), SqT.of (by rw [upd_same, vz_len]), SqT.of (by rw [iz_V]; exact kq2.tup hb14), SqT.of (by rw [iz_V]; exact kq2.tup hb10), _, rfl, ?_⟩
          cases hlt : nestLt (row.length : Nat) (iz row) (r.length : Nat) (iz r) with
          | false => exact iteF ⟨k1012.trans kq2.any, hd12.kp kq2 (fun z => nomatch z) (fun z => nomatch z), _, _, _, rfl⟩
          | true =>
            refine iteT ?_
            obtain ⟨kk, hdf, tf, bkf, hOf, hMf, eq⟩ := main kq2 (.inr ⟨r, hres, hlt⟩)
            refine ⟨_, rfl, _, rfl, x, p4, _, M.d, M.ws, row, tel, steps, rfl, bkf, hOf, sok, tf, Nat.le_trans rl (by decide), rv, fun Hg kg => ?_⟩
            refine ⟨_, rfl, _, rfl, p6, p4, _, M, row, rfl, ⟨hMf.kp kg NoD.nil (fun z => nomatch z), hOf.kp kg (fun z => nomatch z), ok⟩, tf.tk kg.tk, Nat.le_trans rl (by decide), rv, fun Hh kh => ⟨rfl, _, rfl, ?_⟩⟩
            rw [eq, show (!decide (V.int (M.tl (M.run M.first row) : Nat) = V.int (M.tl (M.run M.first row) : Nat))) = false from by simp]
            exact iteF ⟨(kk.trans kg.any).trans kh.any, (hdf.kp kg (fun z => nomatch z) (fun z => nomatch z)).kp kh (fun z => nomatch z) (fun z => nomatch z), _, _, _, rfl⟩
      · rintro σ H11 ⟨k11, hd11, y12, y13, y14, rfl⟩
        exact ⟨hd11, _, _, _, _, _, _, _, _, _, _, _, _, _, rfl⟩
    · rintro σ H2 ⟨hd2, x2, x3, x4, x5, x6, x7, x8, x9, x10, x11, x12, x13, x14, rfl⟩
      exact k H2
end
end LW
namespace LW
open PySem PySem.Spec PyProof.Rows L2 RZ
theorem all_mk {l : PySem.W.OpenLaw} {w : World} {K : PySem.W.Frag} {h : Heap} {mg : Str → Option Value} {fa : Addr} (X : K.In h) (G : h.Ns mainGlobals mg) (hfa : mg "law" = some (.ref fa))
    {COffice : Addr}
    {CBook : Addr}
    {CRawBook : Addr}
    {CMachine : Addr}
    {t_MOST_DESKS : Tok}
    {t_MOST_WORKS : Tok}
    {t_MOST_STANDINGS : Tok}
    {t_MOST_TOLD_books : Tok}
    {t_MOST_NOTES : Tok}
    {t_MOST_TUPLES : Tok}
    {t_MOST_TOLD_machines : Tok}
    {f0 : Addr} {od0 an0 : Option Addr} {sl0 : Array (Option Value)} {oc0 kV0 dc0 pm0 cd0 ct0 : Value}
    {f1 : Addr} {od1 an1 : Option Addr} {sl1 : Array (Option Value)} {oc1 kV1 dc1 pm1 cd1 ct1 : Value}
    {f2 : Addr} {od2 an2 : Option Addr} {sl2 : Array (Option Value)} {oc2 kV2 dc2 pm2 cd2 ct2 : Value}
    {f3 : Addr} {od3 an3 : Option Addr} {sl3 : Array (Option Value)} {oc3 kV3 dc3 pm3 cd3 ct3 : Value}
    {f4 : Addr} {od4 an4 : Option Addr} {sl4 : Array (Option Value)} {oc4 kV4 dc4 pm4 cd4 ct4 : Value}
    {f5 : Addr} {od5 an5 : Option Addr} {sl5 : Array (Option Value)} {kV5 dc5 pm5 cd5 ct5 : Value}
    {eN : Addr} {eS qS : Str} {eb : List Value} {eh : Bool} {esn : List Str} {esub : List Value} {eab : Bool} {ecol : Option Bool} {edd : Option Addr} {e0 e1 e2 e3 e5 : Option Value} {eid : String}
    {ec : Value} {ed : Option Addr} {ees : Array DictEntry} {een : Nat} {esl : Array (Option Value)}
    {f6 : Addr} {od6 an6 : Option Addr} {sl6 : Array (Option Value)} {oc6 kV6 dc6 pm6 cd6 ct6 : Value}
    {f7 : Addr} {od7 an7 : Option Addr} {sl7 : Array (Option Value)} {oc7 kV7 dc7 pm7 cd7 ct7 : Value}
    {f8 : Addr} {od8 an8 : Option Addr} {sl8 : Array (Option Value)} {oc8 kV8 dc8 pm8 cd8 ct8 : Value}
    {f9 : Addr} {od9 an9 : Option Addr} {sl9 : Array (Option Value)} {oc9 kV9 dc9 pm9 cd9 ct9 : Value}
    {f10 : Addr} {od10 an10 : Option Addr} {sl10 : Array (Option Value)} {oc10 kV10 dc10 pm10 cd10 ct10 : Value}
    {f11 : Addr} {od11 an11 : Option Addr} {sl11 : Array (Option Value)} {oc11 kV11 dc11 pm11 cd11 ct11 : Value}
    {f12 : Addr} {od12 an12 : Option Addr} {sl12 : Array (Option Value)} {oc12 kV12 dc12 pm12 cd12 ct12 : Value}
    {f13 : Addr} {od13 an13 : Option Addr} {sl13 : Array (Option Value)} {oc13 kV13 dc13 pm13 cd13 ct13 : Value}
    {f14 : Addr} {od14 an14 : Option Addr} {sl14 : Array (Option Value)} {oc14 kV14 dc14 pm14 cd14 ct14 : Value}
    {f15 : Addr} {od15 an15 : Option Addr} {sl15 : Array (Option Value)} {oc15 kV15 dc15 pm15 cd15 ct15 : Value}
    {f16 : Addr} {od16 an16 : Option Addr} {sl16 : Array (Option Value)} {oc16 kV16 dc16 pm16 cd16 ct16 : Value}
    {f17 : Addr} {od17 an17 : Option Addr} {sl17 : Array (Option Value)} {oc17 kV17 dc17 pm17 cd17 ct17 : Value}
    {f18 : Addr} {od18 an18 : Option Addr} {sl18 : Array (Option Value)} {oc18 kV18 dc18 pm18 cd18 ct18 : Value}
    {f19 : Addr} {od19 an19 : Option Addr} {sl19 : Array (Option Value)} {oc19 kV19 dc19 pm19 cd19 ct19 : Value}
    {f20 : Addr} {od20 an20 : Option Addr} {sl20 : Array (Option Value)} {oc20 kV20 dc20 pm20 cd20 ct20 : Value}
    {f21 : Addr} {od21 an21 : Option Addr} {sl21 : Array (Option Value)} {oc21 kV21 dc21 pm21 cd21 ct21 : Value}
    {f22 : Addr} {od22 an22 : Option Addr} {sl22 : Array (Option Value)} {oc22 kV22 dc22 pm22 cd22 ct22 : Value}
    {f23 : Addr} {od23 an23 : Option Addr} {sl23 : Array (Option Value)} {oc23 kV23 dc23 pm23 cd23 ct23 : Value}
    {f24 : Addr} {od24 an24 : Option Addr} {sl24 : Array (Option Value)} {oc24 kV24 dc24 pm24 cd24 ct24 : Value}
    {f25 : Addr} {od25 an25 : Option Addr} {sl25 : Array (Option Value)} {oc25 kV25 dc25 pm25 cd25 ct25 : Value}
    {f26 : Addr} {od26 an26 : Option Addr} {sl26 : Array (Option Value)} {oc26 kV26 dc26 pm26 cd26 ct26 : Value}
    {f27 : Addr} {od27 an27 : Option Addr} {sl27 : Array (Option Value)} {oc27 kV27 dc27 pm27 cd27 ct27 : Value}
    {f28 : Addr} {od28 an28 : Option Addr} {sl28 : Array (Option Value)} {oc28 kV28 dc28 pm28 cd28 ct28 : Value}
    {f29 : Addr} {od29 an29 : Option Addr} {sl29 : Array (Option Value)} {oc29 kV29 dc29 pm29 cd29 ct29 : Value}
    {f30 : Addr} {od30 an30 : Option Addr} {sl30 : Array (Option Value)} {oc30 kV30 dc30 pm30 cd30 ct30 : Value}
    {f31 : Addr} {od31 an31 : Option Addr} {sl31 : Array (Option Value)} {oc31 kV31 dc31 pm31 cd31 ct31 : Value}
    {f32 : Addr} {od32 an32 : Option Addr} {sl32 : Array (Option Value)} {oc32 kV32 dc32 pm32 cd32 ct32 : Value}
    {f33 : Addr} {od33 an33 : Option Addr} {sl33 : Array (Option Value)} {oc33 kV33 dc33 pm33 cd33 ct33 : Value}
    {f34 : Addr} {od34 an34 : Option Addr} {sl34 : Array (Option Value)} {oc34 kV34 dc34 pm34 cd34 ct34 : Value}
    {f35 : Addr} {od35 an35 : Option Addr} {sl35 : Array (Option Value)} {oc35 kV35 dc35 pm35 cd35 ct35 : Value}
    {f36 : Addr} {od36 an36 : Option Addr} {sl36 : Array (Option Value)} {oc36 kV36 dc36 pm36 cd36 ct36 : Value}
    {f37 : Addr} {od37 an37 : Option Addr} {sl37 : Array (Option Value)} {oc37 kV37 dc37 pm37 cd37 ct37 : Value}
    {f38 : Addr} {od38 an38 : Option Addr} {sl38 : Array (Option Value)} {oc38 kV38 dc38 pm38 cd38 ct38 : Value}
    {f39 : Addr} {od39 an39 : Option Addr} {sl39 : Array (Option Value)} {oc39 kV39 dc39 pm39 cd39 ct39 : Value}
    {f40 : Addr} {od40 an40 : Option Addr} {sl40 : Array (Option Value)} {oc40 kV40 dc40 pm40 cd40 ct40 : Value}
    {f41 : Addr} {od41 an41 : Option Addr} {sl41 : Array (Option Value)} {oc41 kV41 dc41 pm41 cd41 ct41 : Value}
    {f42 : Addr} {od42 an42 : Option Addr} {sl42 : Array (Option Value)} {oc42 kV42 dc42 pm42 cd42 ct42 : Value}
    {f43 : Addr} {od43 an43 : Option Addr} {sl43 : Array (Option Value)} {oc43 kV43 dc43 pm43 cd43 ct43 : Value}
    {f44 : Addr} {od44 an44 : Option Addr} {sl44 : Array (Option Value)} {oc44 kV44 dc44 pm44 cd44 ct44 : Value}
    {f45 : Addr} {od45 an45 : Option Addr} {sl45 : Array (Option Value)} {oc45 kV45 dc45 pm45 cd45 ct45 : Value}
    {f46 : Addr} {od46 an46 : Option Addr} {sl46 : Array (Option Value)} {oc46 kV46 dc46 pm46 cd46 ct46 : Value}
    {f47 : Addr} {od47 an47 : Option Addr} {sl47 : Array (Option Value)} {oc47 kV47 dc47 pm47 cd47 ct47 : Value}
    {f48 : Addr} {od48 an48 : Option Addr} {sl48 : Array (Option Value)} {oc48 kV48 dc48 pm48 cd48 ct48 : Value}
    {f49 : Addr} {od49 an49 : Option Addr} {sl49 : Array (Option Value)} {oc49 kV49 dc49 pm49 cd49 ct49 : Value}
    {f50 : Addr} {od50 an50 : Option Addr} {sl50 : Array (Option Value)} {oc50 kV50 dc50 pm50 cd50 ct50 : Value}
    (aOffice : PySem.W.nsIn K mainGlobals "Office" = some (some (.ref COffice)))
    (pgOffice : PySem.W.plainGet K COffice Str.empty = true)
    (hdOffice : PySem.W.hasDictIn K COffice = true)
    (poOffice : PySem.W.plainOver K COffice = true)
    (saOffice : PySem.W.findIn K (.ref COffice) "__setattr__" = some (some (.builtin "object.__setattr__")))
    (mkOffice : PySem.W.makesIn K COffice = true)
    (kcOffice : PySem.W.keepIn K (.ref COffice) = true)
    (ckOffice : PySem.W.findIn K (.ref COffice) "__class__" = some (some (.builtin "object.__class__")))
    (cmOffice : PySem.W.mroIn K COffice (.type "object") = some true)
    (nOffice_desks : PySem.W.findIn K (.ref COffice) "desks" = some none)
    (nOffice_works : PySem.W.findIn K (.ref COffice) "works" = some none)
    (nOffice_kept_own : PySem.W.findIn K (.ref COffice) "kept_own" = some none)
    (nOffice_kept_meets : PySem.W.findIn K (.ref COffice) "kept_meets" = some none)
    (aBook : PySem.W.nsIn K mainGlobals "Book" = some (some (.ref CBook)))
    (pgBook : PySem.W.plainGet K CBook Str.empty = true)
    (hdBook : PySem.W.hasDictIn K CBook = true)
    (poBook : PySem.W.plainOver K CBook = true)
    (saBook : PySem.W.findIn K (.ref CBook) "__setattr__" = some (some (.builtin "object.__setattr__")))
    (mkBook : PySem.W.makesIn K CBook = true)
    (kcBook : PySem.W.keepIn K (.ref CBook) = true)
    (ckBook : PySem.W.findIn K (.ref CBook) "__class__" = some (some (.builtin "object.__class__")))
    (cmBook : PySem.W.mroIn K CBook (.type "object") = some true)
    (nBook_office : PySem.W.findIn K (.ref CBook) "office" = some none)
    (nBook_telling : PySem.W.findIn K (.ref CBook) "telling" = some none)
    (nBook_steps : PySem.W.findIn K (.ref CBook) "steps" = some none)
    (aRawBook : PySem.W.nsIn K mainGlobals "RawBook" = some (some (.ref CRawBook)))
    (pgRawBook : PySem.W.plainGet K CRawBook Str.empty = true)
    (hdRawBook : PySem.W.hasDictIn K CRawBook = true)
    (poRawBook : PySem.W.plainOver K CRawBook = true)
    (saRawBook : PySem.W.findIn K (.ref CRawBook) "__setattr__" = some (some (.builtin "object.__setattr__")))
    (mkRawBook : PySem.W.makesIn K CRawBook = true)
    (kcRawBook : PySem.W.keepIn K (.ref CRawBook) = true)
    (ckRawBook : PySem.W.findIn K (.ref CRawBook) "__class__" = some (some (.builtin "object.__class__")))
    (cmRawBook : PySem.W.mroIn K CRawBook (.type "object") = some true)
    (nRawBook_office : PySem.W.findIn K (.ref CRawBook) "office" = some none)
    (nRawBook_telling : PySem.W.findIn K (.ref CRawBook) "telling" = some none)
    (nRawBook_steps : PySem.W.findIn K (.ref CRawBook) "steps" = some none)
    (aMachine : PySem.W.nsIn K mainGlobals "Machine" = some (some (.ref CMachine)))
    (pgMachine : PySem.W.plainGet K CMachine Str.empty = true)
    (hdMachine : PySem.W.hasDictIn K CMachine = true)
    (poMachine : PySem.W.plainOver K CMachine = true)
    (saMachine : PySem.W.findIn K (.ref CMachine) "__setattr__" = some (some (.builtin "object.__setattr__")))
    (mkMachine : PySem.W.makesIn K CMachine = true)
    (kcMachine : PySem.W.keepIn K (.ref CMachine) = true)
    (ckMachine : PySem.W.findIn K (.ref CMachine) "__class__" = some (some (.builtin "object.__class__")))
    (cmMachine : PySem.W.mroIn K CMachine (.type "object") = some true)
    (nMachine_office : PySem.W.findIn K (.ref CMachine) "office" = some none)
    (nMachine_many : PySem.W.findIn K (.ref CMachine) "many" = some none)
    (nMachine_kept_moves : PySem.W.findIn K (.ref CMachine) "kept_moves" = some none)
    (nMachine_kept_tells : PySem.W.findIn K (.ref CMachine) "kept_tells" = some none)
    (cn : PySem.W.specialIn K (.builtin "object.__class__") "__get__" = some (some (.builtin "getset_descriptor.__get__")))
    (ctk : PySem.W.takesIn K (.builtin "object.__class__") = some true)
    (z_isinstance : PySem.W.nsIn K mainGlobals "isinstance" = some none)
    (z_int : PySem.W.nsIn K mainGlobals "int" = some none)
    (z_bool : PySem.W.nsIn K mainGlobals "bool" = some none)
    (z_tuple : PySem.W.nsIn K mainGlobals "tuple" = some none)
    (z_dict : PySem.W.nsIn K mainGlobals "dict" = some none)
    (z_list : PySem.W.nsIn K mainGlobals "list" = some none)
    (z_len : PySem.W.nsIn K mainGlobals "len" = some none)
    (z_all : PySem.W.nsIn K mainGlobals "all" = some none)
    (z_any : PySem.W.nsIn K mainGlobals "any" = some none)
    (z_range : PySem.W.nsIn K mainGlobals "range" = some none)
    (z_enumerate : PySem.W.nsIn K mainGlobals "enumerate" = some none)
    (z_zip : PySem.W.nsIn K mainGlobals "zip" = some none)
    (z_sorted : PySem.W.nsIn K mainGlobals "sorted" = some none)
    (z_abs : PySem.W.nsIn K mainGlobals "abs" = some none)
    (z_MOST_DESKS : PySem.W.nsIn K mainGlobals "MOST_DESKS" = some (some (.int 6 t_MOST_DESKS)))
    (z_MOST_WORKS : PySem.W.nsIn K mainGlobals "MOST_WORKS" = some (some (.int 10 t_MOST_WORKS)))
    (z_MOST_STANDINGS : PySem.W.nsIn K mainGlobals "MOST_STANDINGS" = some (some (.int 12 t_MOST_STANDINGS)))
    (z_MOST_TOLD_books : PySem.W.nsIn K mainGlobals "MOST_TOLD_books" = some (some (.int 9 t_MOST_TOLD_books)))
    (z_MOST_NOTES : PySem.W.nsIn K mainGlobals "MOST_NOTES" = some (some (.int 6 t_MOST_NOTES)))
    (z_MOST_TUPLES : PySem.W.nsIn K mainGlobals "MOST_TUPLES" = some (some (.int 200 t_MOST_TUPLES)))
    (z_MOST_TOLD_machines : PySem.W.nsIn K mainGlobals "MOST_TOLD_machines" = some (some (.int 9 t_MOST_TOLD_machines)))
    (a0 : PySem.W.nsIn K mainGlobals "is_integer" = some (some (.ref f0)))
    (l0 : K.lookup f0 = some ⟨oc0, od0, .func (PySem.W.fnOf "is_integer" "is_integer" (defArgs s_is_integer) (defBody s_is_integer) (defScope s_is_integer) .none kV0 dc0 pm0 an0 cd0 ct0), sl0⟩)
    (c0 : PySem.W.codeIn K cd0 "is_integer" = true)
    (k0 : PySem.W.keepIn K (.ref f0) = true)
    (a1 : PySem.W.nsIn K mainGlobals "is_within" = some (some (.ref f1)))
    (l1 : K.lookup f1 = some ⟨oc1, od1, .func (PySem.W.fnOf "is_within" "is_within" (defArgs s_is_within) (defBody s_is_within) (defScope s_is_within) .none kV1 dc1 pm1 an1 cd1 ct1), sl1⟩)
    (c1 : PySem.W.codeIn K cd1 "is_within" = true)
    (k1 : PySem.W.keepIn K (.ref f1) = true)
    (a2 : PySem.W.nsIn K mainGlobals "is_lot" = some (some (.ref f2)))
    (l2 : K.lookup f2 = some ⟨oc2, od2, .func (PySem.W.fnOf "is_lot" "is_lot" (defArgs s_is_lot) (defBody s_is_lot) (defScope s_is_lot) .none kV2 dc2 pm2 an2 cd2 ct2), sl2⟩)
    (c2 : PySem.W.codeIn K cd2 "is_lot" = true)
    (k2 : PySem.W.keepIn K (.ref f2) = true)
    (a3 : PySem.W.nsIn K mainGlobals "are_works" = some (some (.ref f3)))
    (l3 : K.lookup f3 = some ⟨oc3, od3, .func (PySem.W.fnOf "are_works" "are_works" (defArgs s_are_works) (defBody s_are_works) (defScope s_are_works) .none kV3 dc3 pm3 an3 cd3 ct3), sl3⟩)
    (c3 : PySem.W.codeIn K cd3 "are_works" = true)
    (k3 : PySem.W.keepIn K (.ref f3) = true)
    (a4 : PySem.W.findIn K (.ref COffice) "__init__" = some (some (.ref f4)))
    (i4 : PySem.W.isFn K (.ref f4) = true)
    (l4 : K.lookup f4 = some ⟨oc4, od4, .func (PySem.W.fnOf "__init__" "Office.__init__" (defArgs s_Office_init) (defBody s_Office_init) (defScope s_Office_init) .none kV4 dc4 pm4 an4 cd4 ct4), sl4⟩)
    (c4 : PySem.W.codeIn K cd4 "Office.__init__" = true)
    (k4 : PySem.W.keepIn K (.ref f4) = true)
    (eC : K.lookup COffice = some (excClassObj eS qS COffice eN eb [.type "object"] eh esn esub eab ecol edd e0 e1 e2 e3 e5 eid))
    (eL : K.lookup eN = some ⟨ec, ed, .dict ees een, esl⟩)
    (eAll : ees.toList.all (fun e => match e.key with | .str _ _ => true | _ => false) = true)
    (eEq : PySem.W.nsIn K eN "__eq__" = some (some (.ref f5)))
    (eNe : PySem.W.nsIn K eN "__ne__" = some none)
    (l5 : K.lookup f5 = some ⟨.type "function", od5, .func (PySem.W.fnOf "__eq__" "Office.__eq__" (defArgs s_Office_eq) (defBody s_Office_eq) (defScope s_Office_eq) .none kV5 dc5 pm5 an5 cd5 ct5), sl5⟩)
    (c5 : PySem.W.codeIn K cd5 "Office.__eq__" = true)
    (k5 : PySem.W.keepIn K (.ref f5) = true)
    (a6 : PySem.W.nsIn K mainGlobals "is_work" = some (some (.ref f6)))
    (l6 : K.lookup f6 = some ⟨oc6, od6, .func (PySem.W.fnOf "is_work" "is_work" (defArgs s_is_work) (defBody s_is_work) (defScope s_is_work) .none kV6 dc6 pm6 an6 cd6 ct6), sl6⟩)
    (c6 : PySem.W.codeIn K cd6 "is_work" = true)
    (k6 : PySem.W.keepIn K (.ref f6) = true)
    (a7 : PySem.W.nsIn K mainGlobals "is_row_of" = some (some (.ref f7)))
    (l7 : K.lookup f7 = some ⟨oc7, od7, .func (PySem.W.fnOf "is_row_of" "is_row_of" (defArgs s_is_row_of) (defBody s_is_row_of) (defScope s_is_row_of) .none kV7 dc7 pm7 an7 cd7 ct7), sl7⟩)
    (c7 : PySem.W.codeIn K cd7 "is_row_of" = true)
    (k7 : PySem.W.keepIn K (.ref f7) = true)
    (a8 : PySem.W.nsIn K mainGlobals "check_row" = some (some (.ref f8)))
    (l8 : K.lookup f8 = some ⟨oc8, od8, .func (PySem.W.fnOf "check_row" "check_row" (defArgs s_check_row) (defBody s_check_row) (defScope s_check_row) .none kV8 dc8 pm8 an8 cd8 ct8), sl8⟩)
    (c8 : PySem.W.codeIn K cd8 "check_row" = true)
    (k8 : PySem.W.keepIn K (.ref f8) = true)
    (a9 : PySem.W.nsIn K mainGlobals "are_told" = some (some (.ref f9)))
    (l9 : K.lookup f9 = some ⟨oc9, od9, .func (PySem.W.fnOf "are_told" "are_told" (defArgs s_are_told) (defBody s_are_told) (defScope s_are_told) .none kV9 dc9 pm9 an9 cd9 ct9), sl9⟩)
    (c9 : PySem.W.codeIn K cd9 "are_told" = true)
    (k9 : PySem.W.keepIn K (.ref f9) = true)
    (a10 : PySem.W.nsIn K mainGlobals "are_standings" = some (some (.ref f10)))
    (l10 : K.lookup f10 = some ⟨oc10, od10, .func (PySem.W.fnOf "are_standings" "are_standings" (defArgs s_are_standings) (defBody s_are_standings) (defScope s_are_standings) .none kV10 dc10 pm10 an10 cd10 ct10), sl10⟩)
    (c10 : PySem.W.codeIn K cd10 "are_standings" = true)
    (k10 : PySem.W.keepIn K (.ref f10) = true)
    (a11 : PySem.W.findIn K (.ref CBook) "keep" = some (some (.ref f11)))
    (i11 : PySem.W.isFn K (.ref f11) = true)
    (r11 : PySem.W.findIn K (.ref CRawBook) "keep" = some (some (.ref f11)))
    (l11 : K.lookup f11 = some ⟨oc11, od11, .func (PySem.W.fnOf "keep" "Book.keep" (defArgs s_Book_keep) (defBody s_Book_keep) (defScope s_Book_keep) .none kV11 dc11 pm11 an11 cd11 ct11), sl11⟩)
    (c11 : PySem.W.codeIn K cd11 "Book.keep" = true)
    (k11 : PySem.W.keepIn K (.ref f11) = true)
    (a12 : PySem.W.findIn K (.ref CBook) "__init__" = some (some (.ref f12)))
    (i12 : PySem.W.isFn K (.ref f12) = true)
    (l12 : K.lookup f12 = some ⟨oc12, od12, .func (PySem.W.fnOf "__init__" "Book.__init__" (defArgs s_Book_init) (defBody s_Book_init) (defScope s_Book_init) .none kV12 dc12 pm12 an12 cd12 ct12), sl12⟩)
    (c12 : PySem.W.codeIn K cd12 "Book.__init__" = true)
    (k12 : PySem.W.keepIn K (.ref f12) = true)
    (a13 : PySem.W.findIn K (.ref CRawBook) "__init__" = some (some (.ref f13)))
    (i13 : PySem.W.isFn K (.ref f13) = true)
    (l13 : K.lookup f13 = some ⟨oc13, od13, .func (PySem.W.fnOf "__init__" "RawBook.__init__" (defArgs s_RawBook_init) (defBody s_RawBook_init) (defScope s_RawBook_init) .none kV13 dc13 pm13 an13 cd13 ct13), sl13⟩)
    (c13 : PySem.W.codeIn K cd13 "RawBook.__init__" = true)
    (k13 : PySem.W.keepIn K (.ref f13) = true)
    (a14 : PySem.W.nsIn K mainGlobals "raw_book" = some (some (.ref f14)))
    (l14 : K.lookup f14 = some ⟨oc14, od14, .func (PySem.W.fnOf "raw_book" "raw_book" (defArgs s_raw_book) (defBody s_raw_book) (defScope s_raw_book) .none kV14 dc14 pm14 an14 cd14 ct14), sl14⟩)
    (c14 : PySem.W.codeIn K cd14 "raw_book" = true)
    (k14 : PySem.W.keepIn K (.ref f14) = true)
    (a15 : PySem.W.nsIn K mainGlobals "stood_from" = some (some (.ref f15)))
    (l15 : K.lookup f15 = some ⟨oc15, od15, .func (PySem.W.fnOf "stood_from" "stood_from" (defArgs s_stood_from) (defBody s_stood_from) (defScope s_stood_from) .none kV15 dc15 pm15 an15 cd15 ct15), sl15⟩)
    (c15 : PySem.W.codeIn K cd15 "stood_from" = true)
    (k15 : PySem.W.keepIn K (.ref f15) = true)
    (a16 : PySem.W.nsIn K mainGlobals "stood" = some (some (.ref f16)))
    (l16 : K.lookup f16 = some ⟨oc16, od16, .func (PySem.W.fnOf "stood" "stood" (defArgs s_stood) (defBody s_stood) (defScope s_stood) .none kV16 dc16 pm16 an16 cd16 ct16), sl16⟩)
    (c16 : PySem.W.codeIn K cd16 "stood" = true)
    (k16 : PySem.W.keepIn K (.ref f16) = true)
    (a17 : PySem.W.nsIn K mainGlobals "told" = some (some (.ref f17)))
    (l17 : K.lookup f17 = some ⟨oc17, od17, .func (PySem.W.fnOf "told" "told" (defArgs s_told) (defBody s_told) (defScope s_told) .none kV17 dc17 pm17 an17 cd17 ct17), sl17⟩)
    (c17 : PySem.W.codeIn K cd17 "told" = true)
    (k17 : PySem.W.keepIn K (.ref f17) = true)
    (a18 : PySem.W.nsIn K mainGlobals "check_match" = some (some (.ref f18)))
    (l18 : K.lookup f18 = some ⟨oc18, od18, .func (PySem.W.fnOf "check_match" "check_match" (defArgs s_check_match) (defBody s_check_match) (defScope s_check_match) .none kV18 dc18 pm18 an18 cd18 ct18), sl18⟩)
    (c18 : PySem.W.codeIn K cd18 "check_match" = true)
    (k18 : PySem.W.keepIn K (.ref f18) = true)
    (a19 : PySem.W.nsIn K mainGlobals "row_that_parts" = some (some (.ref f19)))
    (l19 : K.lookup f19 = some ⟨oc19, od19, .func (PySem.W.fnOf "row_that_parts" "row_that_parts" (defArgs s_row_that_parts) (defBody s_row_that_parts) (defScope s_row_that_parts) .none kV19 dc19 pm19 an19 cd19 ct19), sl19⟩)
    (c19 : PySem.W.codeIn K cd19 "row_that_parts" = true)
    (k19 : PySem.W.keepIn K (.ref f19) = true)
    (a20 : PySem.W.nsIn K mainGlobals "product_of" = some (some (.ref f20)))
    (l20 : K.lookup f20 = some ⟨oc20, od20, .func (PySem.W.fnOf "product_of" "product_of" (defArgs s_product_of) (defBody s_product_of) (defScope s_product_of) .none kV20 dc20 pm20 an20 cd20 ct20), sl20⟩)
    (c20 : PySem.W.codeIn K cd20 "product_of" = true)
    (k20 : PySem.W.keepIn K (.ref f20) = true)
    (a21 : PySem.W.nsIn K mainGlobals "are_many" = some (some (.ref f21)))
    (l21 : K.lookup f21 = some ⟨oc21, od21, .func (PySem.W.fnOf "are_many" "are_many" (defArgs s_are_many) (defBody s_are_many) (defScope s_are_many) .none kV21 dc21 pm21 an21 cd21 ct21), sl21⟩)
    (c21 : PySem.W.codeIn K cd21 "are_many" = true)
    (k21 : PySem.W.keepIn K (.ref f21) = true)
    (a22 : PySem.W.nsIn K mainGlobals "all_notes" = some (some (.ref f22)))
    (l22 : K.lookup f22 = some ⟨oc22, od22, .func (PySem.W.fnOf "all_notes" "all_notes" (defArgs s_all_notes) (defBody s_all_notes) (defScope s_all_notes) .none kV22 dc22 pm22 an22 cd22 ct22), sl22⟩)
    (c22 : PySem.W.codeIn K cd22 "all_notes" = true)
    (k22 : PySem.W.keepIn K (.ref f22) = true)
    (a23 : PySem.W.nsIn K mainGlobals "are_notes" = some (some (.ref f23)))
    (l23 : K.lookup f23 = some ⟨oc23, od23, .func (PySem.W.fnOf "are_notes" "are_notes" (defArgs s_are_notes) (defBody s_are_notes) (defScope s_are_notes) .none kV23 dc23 pm23 an23 cd23 ct23), sl23⟩)
    (c23 : PySem.W.codeIn K cd23 "are_notes" = true)
    (k23 : PySem.W.keepIn K (.ref f23) = true)
    (a24 : PySem.W.nsIn K mainGlobals "many_of" = some (some (.ref f24)))
    (l24 : K.lookup f24 = some ⟨oc24, od24, .func (PySem.W.fnOf "many_of" "many_of" (defArgs s_many_of) (defBody s_many_of) (defScope s_many_of) .none kV24 dc24 pm24 an24 cd24 ct24), sl24⟩)
    (c24 : PySem.W.codeIn K cd24 "many_of" = true)
    (k24 : PySem.W.keepIn K (.ref f24) = true)
    (a25 : PySem.W.nsIn K mainGlobals "is_move" = some (some (.ref f25)))
    (l25 : K.lookup f25 = some ⟨oc25, od25, .func (PySem.W.fnOf "is_move" "is_move" (defArgs s_is_move) (defBody s_is_move) (defScope s_is_move) .none kV25 dc25 pm25 an25 cd25 ct25), sl25⟩)
    (c25 : PySem.W.codeIn K cd25 "is_move" = true)
    (k25 : PySem.W.keepIn K (.ref f25) = true)
    (a26 : PySem.W.nsIn K mainGlobals "are_moves" = some (some (.ref f26)))
    (l26 : K.lookup f26 = some ⟨oc26, od26, .func (PySem.W.fnOf "are_moves" "are_moves" (defArgs s_are_moves) (defBody s_are_moves) (defScope s_are_moves) .none kV26 dc26 pm26 an26 cd26 ct26), sl26⟩)
    (c26 : PySem.W.codeIn K cd26 "are_moves" = true)
    (k26 : PySem.W.keepIn K (.ref f26) = true)
    (a27 : PySem.W.nsIn K mainGlobals "are_tells" = some (some (.ref f27)))
    (l27 : K.lookup f27 = some ⟨oc27, od27, .func (PySem.W.fnOf "are_tells" "are_tells" (defArgs s_are_tells) (defBody s_are_tells) (defScope s_are_tells) .none kV27 dc27 pm27 an27 cd27 ct27), sl27⟩)
    (c27 : PySem.W.codeIn K cd27 "are_tells" = true)
    (k27 : PySem.W.keepIn K (.ref f27) = true)
    (a28 : PySem.W.findIn K (.ref CMachine) "__init__" = some (some (.ref f28)))
    (i28 : PySem.W.isFn K (.ref f28) = true)
    (l28 : K.lookup f28 = some ⟨oc28, od28, .func (PySem.W.fnOf "__init__" "Machine.__init__" (defArgs s_Machine_init) (defBody s_Machine_init) (defScope s_Machine_init) .none kV28 dc28 pm28 an28 cd28 ct28), sl28⟩)
    (c28 : PySem.W.codeIn K cd28 "Machine.__init__" = true)
    (k28 : PySem.W.keepIn K (.ref f28) = true)
    (a29 : PySem.W.nsIn K mainGlobals "first_notes" = some (some (.ref f29)))
    (l29 : K.lookup f29 = some ⟨oc29, od29, .func (PySem.W.fnOf "first_notes" "first_notes" (defArgs s_first_notes) (defBody s_first_notes) (defScope s_first_notes) .none kV29 dc29 pm29 an29 cd29 ct29), sl29⟩)
    (c29 : PySem.W.codeIn K cd29 "first_notes" = true)
    (k29 : PySem.W.keepIn K (.ref f29) = true)
    (a30 : PySem.W.nsIn K mainGlobals "moved" = some (some (.ref f30)))
    (l30 : K.lookup f30 = some ⟨oc30, od30, .func (PySem.W.fnOf "moved" "moved" (defArgs s_moved) (defBody s_moved) (defScope s_moved) .none kV30 dc30 pm30 an30 cd30 ct30), sl30⟩)
    (c30 : PySem.W.codeIn K cd30 "moved" = true)
    (k30 : PySem.W.keepIn K (.ref f30) = true)
    (a31 : PySem.W.nsIn K mainGlobals "notes_there" = some (some (.ref f31)))
    (l31 : K.lookup f31 = some ⟨oc31, od31, .func (PySem.W.fnOf "notes_there" "notes_there" (defArgs s_notes_there) (defBody s_notes_there) (defScope s_notes_there) .none kV31 dc31 pm31 an31 cd31 ct31), sl31⟩)
    (c31 : PySem.W.codeIn K cd31 "notes_there" = true)
    (k31 : PySem.W.keepIn K (.ref f31) = true)
    (a32 : PySem.W.nsIn K mainGlobals "told_there" = some (some (.ref f32)))
    (l32 : K.lookup f32 = some ⟨oc32, od32, .func (PySem.W.fnOf "told_there" "told_there" (defArgs s_told_there) (defBody s_told_there) (defScope s_told_there) .none kV32 dc32 pm32 an32 cd32 ct32), sl32⟩)
    (c32 : PySem.W.codeIn K cd32 "told_there" = true)
    (k32 : PySem.W.keepIn K (.ref f32) = true)
    (a33 : PySem.W.nsIn K mainGlobals "met_notes" = some (some (.ref f33)))
    (l33 : K.lookup f33 = some ⟨oc33, od33, .func (PySem.W.fnOf "met_notes" "met_notes" (defArgs s_met_notes) (defBody s_met_notes) (defScope s_met_notes) .none kV33 dc33 pm33 an33 cd33 ct33), sl33⟩)
    (c33 : PySem.W.codeIn K cd33 "met_notes" = true)
    (k33 : PySem.W.keepIn K (.ref f33) = true)
    (a34 : PySem.W.nsIn K mainGlobals "book_of" = some (some (.ref f34)))
    (l34 : K.lookup f34 = some ⟨oc34, od34, .func (PySem.W.fnOf "book_of" "book_of" (defArgs s_book_of) (defBody s_book_of) (defScope s_book_of) .none kV34 dc34 pm34 an34 cd34 ct34), sl34⟩)
    (c34 : PySem.W.codeIn K cd34 "book_of" = true)
    (k34 : PySem.W.keepIn K (.ref f34) = true)
    (a35 : PySem.W.nsIn K mainGlobals "wrong_row" = some (some (.ref f35)))
    (l35 : K.lookup f35 = some ⟨oc35, od35, .func (PySem.W.fnOf "wrong_row" "wrong_row" (defArgs s_wrong_row) (defBody s_wrong_row) (defScope s_wrong_row) .none kV35 dc35 pm35 an35 cd35 ct35), sl35⟩)
    (c35 : PySem.W.codeIn K cd35 "wrong_row" = true)
    (k35 : PySem.W.keepIn K (.ref f35) = true)
    (a36 : PySem.W.nsIn K mainGlobals "is_for" = some (some (.ref f36)))
    (l36 : K.lookup f36 = some ⟨oc36, od36, .func (PySem.W.fnOf "is_for" "is_for" (defArgs s_is_for) (defBody s_is_for) (defScope s_is_for) .none kV36 dc36 pm36 an36 cd36 ct36), sl36⟩)
    (c36 : PySem.W.codeIn K cd36 "is_for" = true)
    (k36 : PySem.W.keepIn K (.ref f36) = true)
    (a37 : PySem.W.nsIn K mainGlobals "_law_dice" = some (some (.ref f37)))
    (l37 : K.lookup f37 = some ⟨oc37, od37, .func (PySem.W.fnOf "_law_dice" "_law_dice" (defArgs s_law_dice) (defBody s_law_dice) (defScope s_law_dice) .none kV37 dc37 pm37 an37 cd37 ct37), sl37⟩)
    (c37 : PySem.W.codeIn K cd37 "_law_dice" = true)
    (k37 : PySem.W.keepIn K (.ref f37) = true)
    (a38 : PySem.W.nsIn K mainGlobals "_law_draw" = some (some (.ref f38)))
    (l38 : K.lookup f38 = some ⟨oc38, od38, .func (PySem.W.fnOf "_law_draw" "_law_draw" (defArgs s_law_draw) (defBody s_law_draw) (defScope s_law_draw) .none kV38 dc38 pm38 an38 cd38 ct38), sl38⟩)
    (c38 : PySem.W.codeIn K cd38 "_law_draw" = true)
    (k38 : PySem.W.keepIn K (.ref f38) = true)
    (a39 : PySem.W.nsIn K mainGlobals "_law_parts" = some (some (.ref f39)))
    (l39 : K.lookup f39 = some ⟨oc39, od39, .func (PySem.W.fnOf "_law_parts" "_law_parts" (defArgs s_law_parts) (defBody s_law_parts) (defScope s_law_parts) .none kV39 dc39 pm39 an39 cd39 ct39), sl39⟩)
    (c39 : PySem.W.codeIn K cd39 "_law_parts" = true)
    (k39 : PySem.W.keepIn K (.ref f39) = true)
    (a40 : PySem.W.nsIn K mainGlobals "_law_made" = some (some (.ref f40)))
    (l40 : K.lookup f40 = some ⟨oc40, od40, .func (PySem.W.fnOf "_law_made" "_law_made" (defArgs s_law_made) (defBody s_law_made) (defScope s_law_made) .none kV40 dc40 pm40 an40 cd40 ct40), sl40⟩)
    (c40 : PySem.W.codeIn K cd40 "_law_made" = true)
    (k40 : PySem.W.keepIn K (.ref f40) = true)
    (a41 : PySem.W.nsIn K mainGlobals "_law_row" = some (some (.ref f41)))
    (l41 : K.lookup f41 = some ⟨oc41, od41, .func (PySem.W.fnOf "_law_row" "_law_row" (defArgs s_law_row) (defBody s_law_row) (defScope s_law_row) .none kV41 dc41 pm41 an41 cd41 ct41), sl41⟩)
    (c41 : PySem.W.codeIn K cd41 "_law_row" = true)
    (k41 : PySem.W.keepIn K (.ref f41) = true)
    (a42 : PySem.W.nsIn K mainGlobals "_law_all_notes" = some (some (.ref f42)))
    (l42 : K.lookup f42 = some ⟨oc42, od42, .func (PySem.W.fnOf "_law_all_notes" "_law_all_notes" (defArgs s_law_all_notes) (defBody s_law_all_notes) (defScope s_law_all_notes) .none kV42 dc42 pm42 an42 cd42 ct42), sl42⟩)
    (c42 : PySem.W.codeIn K cd42 "_law_all_notes" = true)
    (k42 : PySem.W.keepIn K (.ref f42) = true)
    (a43 : PySem.W.nsIn K mainGlobals "_law_machine_parts" = some (some (.ref f43)))
    (l43 : K.lookup f43 = some ⟨oc43, od43, .func (PySem.W.fnOf "_law_machine_parts" "_law_machine_parts" (defArgs s_law_machine_parts) (defBody s_law_machine_parts) (defScope s_law_machine_parts) .none kV43 dc43 pm43 an43 cd43 ct43), sl43⟩)
    (c43 : PySem.W.codeIn K cd43 "_law_machine_parts" = true)
    (k43 : PySem.W.keepIn K (.ref f43) = true)
    (a44 : PySem.W.nsIn K mainGlobals "_law_machine" = some (some (.ref f44)))
    (l44 : K.lookup f44 = some ⟨oc44, od44, .func (PySem.W.fnOf "_law_machine" "_law_machine" (defArgs s_law_machine) (defBody s_law_machine) (defScope s_law_machine) .none kV44 dc44 pm44 an44 cd44 ct44), sl44⟩)
    (c44 : PySem.W.codeIn K cd44 "_law_machine" = true)
    (k44 : PySem.W.keepIn K (.ref f44) = true)
    (a45 : PySem.W.nsIn K mainGlobals "_law_moved" = some (some (.ref f45)))
    (l45 : K.lookup f45 = some ⟨oc45, od45, .func (PySem.W.fnOf "_law_moved" "_law_moved" (defArgs s_law_moved) (defBody s_law_moved) (defScope s_law_moved) .none kV45 dc45 pm45 an45 cd45 ct45), sl45⟩)
    (c45 : PySem.W.codeIn K cd45 "_law_moved" = true)
    (k45 : PySem.W.keepIn K (.ref f45) = true)
    (a46 : PySem.W.nsIn K mainGlobals "_law_met" = some (some (.ref f46)))
    (l46 : K.lookup f46 = some ⟨oc46, od46, .func (PySem.W.fnOf "_law_met" "_law_met" (defArgs s_law_met) (defBody s_law_met) (defScope s_law_met) .none kV46 dc46 pm46 an46 cd46 ct46), sl46⟩)
    (c46 : PySem.W.codeIn K cd46 "_law_met" = true)
    (k46 : PySem.W.keepIn K (.ref f46) = true)
    (a47 : PySem.W.nsIn K mainGlobals "_law_joined" = some (some (.ref f47)))
    (l47 : K.lookup f47 = some ⟨oc47, od47, .func (PySem.W.fnOf "_law_joined" "_law_joined" (defArgs s_law_joined) (defBody s_law_joined) (defScope s_law_joined) .none kV47 dc47 pm47 an47 cd47 ct47), sl47⟩)
    (c47 : PySem.W.codeIn K cd47 "_law_joined" = true)
    (k47 : PySem.W.keepIn K (.ref f47) = true)
    (a48 : PySem.W.nsIn K mainGlobals "_law_some_book" = some (some (.ref f48)))
    (l48 : K.lookup f48 = some ⟨oc48, od48, .func (PySem.W.fnOf "_law_some_book" "_law_some_book" (defArgs s_law_some_book) (defBody s_law_some_book) (defScope s_law_some_book) .none kV48 dc48 pm48 an48 cd48 ct48), sl48⟩)
    (c48 : PySem.W.codeIn K cd48 "_law_some_book" = true)
    (k48 : PySem.W.keepIn K (.ref f48) = true)
    (a49 : PySem.W.nsIn K mainGlobals "_law_wrong" = some (some (.ref f49)))
    (l49 : K.lookup f49 = some ⟨oc49, od49, .func (PySem.W.fnOf "_law_wrong" "_law_wrong" (defArgs s_law_wrong) (defBody s_law_wrong) (defScope s_law_wrong) .none kV49 dc49 pm49 an49 cd49 ct49), sl49⟩)
    (c49 : PySem.W.codeIn K cd49 "_law_wrong" = true)
    (k49 : PySem.W.keepIn K (.ref f49) = true)
    (a50 : PySem.W.nsIn K mainGlobals "law" = some (some (.ref f50)))
    (l50 : K.lookup f50 = some ⟨oc50, od50, .func (PySem.W.fnOf "law" "law" (defArgs s_law) (defBody s_law) (defScope s_law) .none kV50 dc50 pm50 an50 cd50 ct50), sl50⟩)
    (c50 : PySem.W.codeIn K cd50 "law" = true)
    (k50 : PySem.W.keepIn K (.ref f50) = true)
    : ∃ fd : FuncData, (∀ (s : Shared) (v : Value), BindsTo s fd ⟨[v], []⟩ [("_law_script", v)]) ∧ ∀ base : Heap, K.In base → base.Ns mainGlobals mg → FnOk l.prog w K mg base CX0 9 fa fd ["_law_script"] (sp_law K) := by
  have e := hfa.symm.trans (PySem.W.mg_of X G a50)
  cases e
  have Tx : Txt mg := ⟨PySem.W.mg_none_of X G z_isinstance, PySem.W.mg_none_of X G z_int, PySem.W.mg_none_of X G z_bool, PySem.W.mg_none_of X G z_tuple, PySem.W.mg_none_of X G z_dict, PySem.W.mg_none_of X G z_list, PySem.W.mg_none_of X G z_len, PySem.W.mg_none_of X G z_all, PySem.W.mg_none_of X G z_any, PySem.W.mg_none_of X G z_range, PySem.W.mg_none_of X G z_enumerate, PySem.W.mg_none_of X G z_zip, PySem.W.mg_none_of X G z_sorted, PySem.W.mg_none_of X G z_abs, ⟨_, PySem.W.mg_of X G z_MOST_DESKS⟩, ⟨_, PySem.W.mg_of X G z_MOST_WORKS⟩, ⟨_, PySem.W.mg_of X G z_MOST_STANDINGS⟩, ⟨_, PySem.W.mg_of X G z_MOST_TOLD_books⟩, ⟨_, PySem.W.mg_of X G z_MOST_NOTES⟩, ⟨_, PySem.W.mg_of X G z_MOST_TUPLES⟩, ⟨_, PySem.W.mg_of X G z_MOST_TOLD_machines⟩⟩
  have clOffice : Cls K COffice := ⟨pgOffice, hdOffice, poOffice, saOffice⟩
  have T_Office : ClsF K mg "Office" COffice := ⟨clOffice, PySem.W.mg_of X G aOffice, ckOffice, cn, ctk, cmOffice⟩
  have fcOffice : FO K COffice := ⟨clOffice, nOffice_desks, nOffice_works, nOffice_kept_own, nOffice_kept_meets⟩
  have clBook : Cls K CBook := ⟨pgBook, hdBook, poBook, saBook⟩
  have T_Book : ClsF K mg "Book" CBook := ⟨clBook, PySem.W.mg_of X G aBook, ckBook, cn, ctk, cmBook⟩
  have fcBook : FB K CBook := ⟨clBook, nBook_office, nBook_telling, nBook_steps⟩
  have clRawBook : Cls K CRawBook := ⟨pgRawBook, hdRawBook, poRawBook, saRawBook⟩
  have T_RawBook : ClsF K mg "RawBook" CRawBook := ⟨clRawBook, PySem.W.mg_of X G aRawBook, ckRawBook, cn, ctk, cmRawBook⟩
  have fcRawBook : FB K CRawBook := ⟨clRawBook, nRawBook_office, nRawBook_telling, nRawBook_steps⟩
  have clMachine : Cls K CMachine := ⟨pgMachine, hdMachine, poMachine, saMachine⟩
  have T_Machine : ClsF K mg "Machine" CMachine := ⟨clMachine, PySem.W.mg_of X G aMachine, ckMachine, cn, ctk, cmMachine⟩
  have fcMachine : FM K CMachine := ⟨clMachine, nMachine_office, nMachine_many, nMachine_kept_moves, nMachine_kept_tells⟩
  have F0 := fun_mk (st := s_is_integer) l0 c0 k0
  have b0 := F0.binds (ps := ["thing"]) fun _ _ _ _ _ _ us hl => match us, hl with | [_], _ => rfl
  have F1 := fun_mk (st := s_is_within) l1 c1 k1
  have b1 := F1.binds (ps := ["thing", "least", "most"]) fun _ _ _ _ _ _ us hl => match us, hl with | [_, _, _], _ => rfl
  have F2 := fun_mk (st := s_is_lot) l2 c2 k2
  have b2 := F2.binds (ps := ["thing", "below"]) fun _ _ _ _ _ _ us hl => match us, hl with | [_, _], _ => rfl
  have F3 := fun_mk (st := s_are_works) l3 c3 k3
  have b3 := F3.binds (ps := ["desks", "thing"]) fun _ _ _ _ _ _ us hl => match us, hl with | [_, _], _ => rfl
  have F4 := fun_mk (st := s_Office_init) l4 c4 k4
  have b4 := F4.binds (ps := ["self", "desks", "works"]) fun _ _ _ _ _ _ us hl => match us, hl with | [_, _, _], _ => rfl
  have F5 := fun_mk (st := s_Office_eq) l5 c5 k5
  have b5 := F5.binds (ps := ["self", "other"]) fun _ _ _ _ _ _ us hl => match us, hl with | [_, _], _ => rfl
  have F6 := fun_mk (st := s_is_work) l6 c6 k6
  have b6 := F6.binds (ps := ["office", "thing"]) fun _ _ _ _ _ _ us hl => match us, hl with | [_, _], _ => rfl
  have F7 := fun_mk (st := s_is_row_of) l7 c7 k7
  have b7 := F7.binds (ps := ["office", "thing"]) fun _ _ _ _ _ _ us hl => match us, hl with | [_, _], _ => rfl
  have F8 := fun_mk (st := s_check_row) l8 c8 k8
  have b8 := F8.binds (ps := ["office", "thing"]) fun _ _ _ _ _ _ us hl => match us, hl with | [_, _], _ => rfl
  have F9 := fun_mk (st := s_are_told) l9 c9 k9
  have b9 := F9.binds (ps := ["thing"]) fun _ _ _ _ _ _ us hl => match us, hl with | [_], _ => rfl
  have F10 := fun_mk (st := s_are_standings) l10 c10 k10
  have b10 := F10.binds (ps := ["thing", "many", "below"]) fun _ _ _ _ _ _ us hl => match us, hl with | [_, _, _], _ => rfl
  have F11 := fun_mk (st := s_Book_keep) l11 c11 k11
  have b11 := F11.binds (ps := ["self", "office", "telling", "steps"]) fun _ _ _ _ _ _ us hl => match us, hl with | [_, _, _, _], _ => rfl
  have F12 := fun_mk (st := s_Book_init) l12 c12 k12
  have b12 := F12.binds (ps := ["self", "office", "telling", "steps"]) fun _ _ _ _ _ _ us hl => match us, hl with | [_, _, _, _], _ => rfl
  have F13 := fun_mk (st := s_RawBook_init) l13 c13 k13
  have b13 := F13.binds (ps := ["self", "office", "telling", "steps"]) fun _ _ _ _ _ _ us hl => match us, hl with | [_, _, _, _], _ => rfl
  have F14 := fun_mk (st := s_raw_book) l14 c14 k14
  have b14 := F14.binds (ps := ["office", "telling", "steps"]) fun _ _ _ _ _ _ us hl => match us, hl with | [_, _, _], _ => rfl
  have F15 := fun_mk (st := s_stood_from) l15 c15 k15
  have b15 := F15.binds (ps := ["book", "standing", "row"]) fun _ _ _ _ _ _ us hl => match us, hl with | [_, _, _], _ => rfl
  have F16 := fun_mk (st := s_stood) l16 c16 k16
  have b16 := F16.binds (ps := ["book", "row"]) fun _ _ _ _ _ _ us hl => match us, hl with | [_, _], _ => rfl
  have F17 := fun_mk (st := s_told) l17 c17 k17
  have b17 := F17.binds (ps := ["book", "row"]) fun _ _ _ _ _ _ us hl => match us, hl with | [_, _], _ => rfl
  have F18 := fun_mk (st := s_check_match) l18 c18 k18
  have b18 := F18.binds (ps := ["one", "other"]) fun _ _ _ _ _ _ us hl => match us, hl with | [_, _], _ => rfl
  have F19 := fun_mk (st := s_row_that_parts) l19 c19 k19
  have b19 := F19.binds (ps := ["one", "other"]) fun _ _ _ _ _ _ us hl => match us, hl with | [_, _], _ => rfl
  have F20 := fun_mk (st := s_product_of) l20 c20 k20
  have b20 := F20.binds (ps := ["many"]) fun _ _ _ _ _ _ us hl => match us, hl with | [_], _ => rfl
  have F21 := fun_mk (st := s_are_many) l21 c21 k21
  have b21 := F21.binds (ps := ["office", "thing"]) fun _ _ _ _ _ _ us hl => match us, hl with | [_, _], _ => rfl
  have F22 := fun_mk (st := s_all_notes) l22 c22 k22
  have b22 := F22.binds (ps := ["many"]) fun _ _ _ _ _ _ us hl => match us, hl with | [_], _ => rfl
  have F23 := fun_mk (st := s_are_notes) l23 c23 k23
  have b23 := F23.binds (ps := ["many", "thing"]) fun _ _ _ _ _ _ us hl => match us, hl with | [_, _], _ => rfl
  have F24 := fun_mk (st := s_many_of) l24 c24 k24
  have b24 := F24.binds (ps := ["lot", "many"]) fun _ _ _ _ _ _ us hl => match us, hl with | [_, _], _ => rfl
  have F25 := fun_mk (st := s_is_move) l25 c25 k25
  have b25 := F25.binds (ps := ["many", "thing"]) fun _ _ _ _ _ _ us hl => match us, hl with | [_, _], _ => rfl
  have F26 := fun_mk (st := s_are_moves) l26 c26 k26
  have b26 := F26.binds (ps := ["office", "many", "thing"]) fun _ _ _ _ _ _ us hl => match us, hl with | [_, _, _], _ => rfl
  have F27 := fun_mk (st := s_are_tells) l27 c27 k27
  have b27 := F27.binds (ps := ["many", "thing"]) fun _ _ _ _ _ _ us hl => match us, hl with | [_, _], _ => rfl
  have F28 := fun_mk (st := s_Machine_init) l28 c28 k28
  have b28 := F28.binds (ps := ["self", "office", "many", "moves", "tells"]) fun _ _ _ _ _ _ us hl => match us, hl with | [_, _, _, _, _], _ => rfl
  have F29 := fun_mk (st := s_first_notes) l29 c29 k29
  have b29 := F29.binds (ps := ["machine"]) fun _ _ _ _ _ _ us hl => match us, hl with | [_], _ => rfl
  have F30 := fun_mk (st := s_moved) l30 c30 k30
  have b30 := F30.binds (ps := ["machine", "notes", "work"]) fun _ _ _ _ _ _ us hl => match us, hl with | [_, _, _], _ => rfl
  have F31 := fun_mk (st := s_notes_there) l31 c31 k31
  have b31 := F31.binds (ps := ["machine", "row"]) fun _ _ _ _ _ _ us hl => match us, hl with | [_, _], _ => rfl
  have F32 := fun_mk (st := s_told_there) l32 c32 k32
  have b32 := F32.binds (ps := ["machine", "row"]) fun _ _ _ _ _ _ us hl => match us, hl with | [_, _], _ => rfl
  have F33 := fun_mk (st := s_met_notes) l33 c33 k33
  have b33 := F33.binds (ps := ["machine"]) fun _ _ _ _ _ _ us hl => match us, hl with | [_], _ => rfl
  have F34 := fun_mk (st := s_book_of) l34 c34 k34
  have b34 := F34.binds (ps := ["machine"]) fun _ _ _ _ _ _ us hl => match us, hl with | [_], _ => rfl
  have F35 := fun_mk (st := s_wrong_row) l35 c35 k35
  have b35 := F35.binds (ps := ["book", "machine"]) fun _ _ _ _ _ _ us hl => match us, hl with | [_, _], _ => rfl
  have F36 := fun_mk (st := s_is_for) l36 c36 k36
  have b36 := F36.binds (ps := ["book", "thing"]) fun _ _ _ _ _ _ us hl => match us, hl with | [_, _], _ => rfl
  have F37 := fun_mk (st := s_law_dice) l37 c37 k37
  have b37 := F37.binds (ps := ["_law_script"]) fun _ _ _ _ _ _ us hl => match us, hl with | [_], _ => rfl
  have F38 := fun_mk (st := s_law_draw) l38 c38 k38
  have b38 := F38.binds (ps := ["_law_dice_here", "_law_sides"]) fun _ _ _ _ _ _ us hl => match us, hl with | [_, _], _ => rfl
  have F39 := fun_mk (st := s_law_parts) l39 c39 k39
  have b39 := F39.binds (ps := ["_law_dice_here", "_law_most"]) fun _ _ _ _ _ _ us hl => match us, hl with | [_, _], _ => rfl
  have F40 := fun_mk (st := s_law_made) l40 c40 k40
  have b40 := F40.binds (ps := ["_law_parts_here"]) fun _ _ _ _ _ _ us hl => match us, hl with | [_], _ => rfl
  have F41 := fun_mk (st := s_law_row) l41 c41 k41
  have b41 := F41.binds (ps := ["_law_dice_here", "_law_parts_here", "_law_most"]) fun _ _ _ _ _ _ us hl => match us, hl with | [_, _, _], _ => rfl
  have F42 := fun_mk (st := s_law_all_notes) l42 c42 k42
  have b42 := F42.binds (ps := ["_law_many"]) fun _ _ _ _ _ _ us hl => match us, hl with | [_], _ => rfl
  have F43 := fun_mk (st := s_law_machine_parts) l43 c43 k43
  have b43 := F43.binds (ps := ["_law_dice_here", "_law_parts_here"]) fun _ _ _ _ _ _ us hl => match us, hl with | [_, _], _ => rfl
  have F44 := fun_mk (st := s_law_machine) l44 c44 k44
  have b44 := F44.binds (ps := ["_law_office", "_law_machine_here"]) fun _ _ _ _ _ _ us hl => match us, hl with | [_, _], _ => rfl
  have F45 := fun_mk (st := s_law_moved) l45 c45 k45
  have b45 := F45.binds (ps := ["_law_parts_here", "_law_machine_here", "_law_notes_here", "_law_work"]) fun _ _ _ _ _ _ us hl => match us, hl with | [_, _, _, _], _ => rfl
  have F46 := fun_mk (st := s_law_met) l46 c46 k46
  have b46 := F46.binds (ps := ["_law_parts_here", "_law_machine_here"]) fun _ _ _ _ _ _ us hl => match us, hl with | [_, _], _ => rfl
  have F47 := fun_mk (st := s_law_joined) l47 c47 k47
  have b47 := F47.binds (ps := ["_law_parts_here", "_law_machine_here"]) fun _ _ _ _ _ _ us hl => match us, hl with | [_, _], _ => rfl
  have F48 := fun_mk (st := s_law_some_book) l48 c48 k48
  have b48 := F48.binds (ps := ["_law_dice_here", "_law_parts_here", "_law_made_here"]) fun _ _ _ _ _ _ us hl => match us, hl with | [_, _, _], _ => rfl
  have F49 := fun_mk (st := s_law_wrong) l49 c49 k49
  have b49 := F49.binds (ps := ["_law_parts_here", "_law_made_here", "_law_telling", "_law_steps"]) fun _ _ _ _ _ _ us hl => match us, hl with | [_, _, _, _], _ => rfl
  have F50 := fun_mk (st := s_law) l50 c50 k50
  have b50 := F50.binds (ps := ["_law_script"]) fun _ _ _ _ _ _ us hl => match us, hl with | [_], _ => rfl
  have eOk : PySem.W.nsOkIn K eN = true := by unfold PySem.W.nsOkIn; rw [eL]; dsimp only; rw [← Array.all_toList]; exact eAll
  have n_Office : NeCls K COffice f5 := ⟨_, _, _, _, _, _, _, _, _, _, _, _, _, _, _, _, _, eC, eOk, eEq, eNe, l5, rfl⟩
  refine ⟨PySem.W.fnOf "law" "law" (defArgs s_law) (defBody s_law) (defScope s_law) .none kV50 dc50 pm50 an50 cd50 ct50, fun s v => .of_eq rfl, fun base _ _ => ?_⟩
  have G_is_integer : Gf l.prog w K mg base "is_integer" ["thing"] 1 sp_is_integer := ⟨_, _, PySem.W.mg_of X G a0, k0, b0, ok_is_integer (P := l.prog) (w := w) (mg := mg) (base := base) F0 Tx ⟩
  have G_is_within : Gf l.prog w K mg base "is_within" ["thing", "least", "most"] 2 sp_is_within := ⟨_, _, PySem.W.mg_of X G a1, k1, b1, ok_is_within (P := l.prog) (w := w) (mg := mg) (base := base) F1 Tx G_is_integer⟩
  have G_is_lot : Gf l.prog w K mg base "is_lot" ["thing", "below"] 3 sp_is_lot := ⟨_, _, PySem.W.mg_of X G a2, k2, b2, ok_is_lot (P := l.prog) (w := w) (mg := mg) (base := base) F2 Tx G_is_within⟩
  have G_are_works : Gf l.prog w K mg base "are_works" ["desks", "thing"] 4 sp_are_works := ⟨_, _, PySem.W.mg_of X G a3, k3, b3, ok_are_works (P := l.prog) (w := w) (mg := mg) (base := base) F3 Tx G_is_lot⟩
  have C_Office : Gc l.prog w K mg base "Office" COffice ["self", "desks", "works"] 5 (sp_Office_init K COffice) := ⟨_, _, PySem.W.mg_of X G aOffice, ⟨mkOffice, a4, i4, kcOffice⟩, b4, ok_Office_init (P := l.prog) (w := w) (mg := mg) (base := base) F4 Tx fcOffice G_are_works G_is_within⟩
  have F_Office_eq := ok_Office_eq (P := l.prog) (w := w) (mg := mg) (base := base) F5 Tx T_Office
  have G_is_work : Gf l.prog w K mg base "is_work" ["office", "thing"] 3 (sp_is_work K COffice) := ⟨_, _, PySem.W.mg_of X G a6, k6, b6, ok_is_work (P := l.prog) (w := w) (mg := mg) (base := base) F6 Tx G_is_within⟩
  have G_is_row_of : Gf l.prog w K mg base "is_row_of" ["office", "thing"] 4 (sp_is_row_of K COffice) := ⟨_, _, PySem.W.mg_of X G a7, k7, b7, ok_is_row_of (P := l.prog) (w := w) (mg := mg) (base := base) F7 Tx G_is_work⟩
  have G_check_row : Gf l.prog w K mg base "check_row" ["office", "thing"] 5 (sp_check_row K COffice) := ⟨_, _, PySem.W.mg_of X G a8, k8, b8, ok_check_row (P := l.prog) (w := w) (mg := mg) (base := base) F8 Tx G_is_row_of⟩
  have G_are_told : Gf l.prog w K mg base "are_told" ["thing"] 3 sp_are_told := ⟨_, _, PySem.W.mg_of X G a9, k9, b9, ok_are_told (P := l.prog) (w := w) (mg := mg) (base := base) F9 Tx G_is_within⟩
  have G_are_standings : Gf l.prog w K mg base "are_standings" ["thing", "many", "below"] 3 sp_are_standings := ⟨_, _, PySem.W.mg_of X G a10, k10, b10, ok_are_standings (P := l.prog) (w := w) (mg := mg) (base := base) F10 Tx G_is_within⟩
  have G_keep : Gm l.prog w K mg base CBook "keep" ["self", "office", "telling", "steps"] 1 (sp_Book_keep K CBook) := ⟨_, _, ⟨a11, i11, k11⟩, b11, ok_Book_keep (P := l.prog) (w := w) (mg := mg) (base := base) (C0 := CBook) F11 Tx⟩
  have G_keepR : Gm l.prog w K mg base CRawBook "keep" ["self", "office", "telling", "steps"] 1 (sp_Book_keep K CRawBook) := ⟨_, _, ⟨r11, i11, k11⟩, b11, ok_Book_keep (P := l.prog) (w := w) (mg := mg) (base := base) (C0 := CRawBook) F11 Tx⟩
  have C_Book : Gc l.prog w K mg base "Book" CBook ["self", "office", "telling", "steps"] 4 (sp_Book_init K COffice CBook) := ⟨_, _, PySem.W.mg_of X G aBook, ⟨mkBook, a12, i12, kcBook⟩, b12, ok_Book_init (P := l.prog) (w := w) (mg := mg) (base := base) F12 Tx T_Book G_keep G_are_standings G_are_told⟩
  have C_RawBook : Gc l.prog w K mg base "RawBook" CRawBook ["self", "office", "telling", "steps"] 2 (sp_Book_keep K CRawBook) := ⟨_, _, PySem.W.mg_of X G aRawBook, ⟨mkRawBook, a13, i13, kcRawBook⟩, b13, ok_RawBook_init (P := l.prog) (w := w) (mg := mg) (base := base) F13 Tx T_RawBook G_keepR⟩
  have G_raw_book : Gf l.prog w K mg base "raw_book" ["office", "telling", "steps"] 4 (sp_raw_book K) := ⟨_, _, PySem.W.mg_of X G a14, k14, b14, ok_raw_book (P := l.prog) (w := w) (mg := mg) (base := base) F14 Tx fcRawBook C_RawBook⟩
  have G_stood_from : Gf l.prog w K mg base "stood_from" ["book", "standing", "row"] 1 (sp_stood_from K) := ⟨_, _, PySem.W.mg_of X G a15, k15, b15, ok_stood_from (P := l.prog) (w := w) (mg := mg) (base := base) F15 Tx ⟩
  have G_stood : Gf l.prog w K mg base "stood" ["book", "row"] 6 (sp_stood K COffice) := ⟨_, _, PySem.W.mg_of X G a16, k16, b16, ok_stood (P := l.prog) (w := w) (mg := mg) (base := base) F16 Tx G_check_row G_stood_from⟩
  have G_told : Gf l.prog w K mg base "told" ["book", "row"] 7 (sp_told K COffice) := ⟨_, _, PySem.W.mg_of X G a17, k17, b17, ok_told (P := l.prog) (w := w) (mg := mg) (base := base) F17 Tx G_stood⟩
  have G_check_match : Gf l.prog w K mg base "check_match" ["one", "other"] 3 (sp_check_match K COffice CMachine) := ⟨_, _, PySem.W.mg_of X G a18, k18, b18, ok_check_match (P := l.prog) (w := w) (mg := mg) (base := base) F18 Tx F_Office_eq n_Office b5⟩
  have G_row_that_parts : Gf l.prog w K mg base "row_that_parts" ["one", "other"] 1 (sp_row_that_parts K) := ⟨_, _, PySem.W.mg_of X G a19, k19, b19, ok_row_that_parts (P := l.prog) (w := w) (mg := mg) (base := base) F19 Tx ⟩
  have G_product_of : Gf l.prog w K mg base "product_of" ["many"] 1 sp_product_of := ⟨_, _, PySem.W.mg_of X G a20, k20, b20, ok_product_of (P := l.prog) (w := w) (mg := mg) (base := base) F20 Tx ⟩
  have G_are_many : Gf l.prog w K mg base "are_many" ["office", "thing"] 3 (sp_are_many K COffice) := ⟨_, _, PySem.W.mg_of X G a21, k21, b21, ok_are_many (P := l.prog) (w := w) (mg := mg) (base := base) F21 Tx G_is_within G_product_of⟩
  have G_all_notes : Gf l.prog w K mg base "all_notes" ["many"] 1 sp_all_notes := ⟨_, _, PySem.W.mg_of X G a22, k22, b22, ok_all_notes (P := l.prog) (w := w) (mg := mg) (base := base) F22 Tx ⟩
  have G_are_notes : Gf l.prog w K mg base "are_notes" ["many", "thing"] 3 sp_are_notes := ⟨_, _, PySem.W.mg_of X G a23, k23, b23, ok_are_notes (P := l.prog) (w := w) (mg := mg) (base := base) F23 Tx G_is_within⟩
  have G_many_of : Gf l.prog w K mg base "many_of" ["lot", "many"] 1 sp_many_of := ⟨_, _, PySem.W.mg_of X G a24, k24, b24, ok_many_of (P := l.prog) (w := w) (mg := mg) (base := base) F24 Tx ⟩
  have G_is_move : Gf l.prog w K mg base "is_move" ["many", "thing"] 4 sp_is_move := ⟨_, _, PySem.W.mg_of X G a25, k25, b25, ok_is_move (P := l.prog) (w := w) (mg := mg) (base := base) F25 Tx G_all_notes G_are_notes G_product_of⟩
  have G_are_moves : Gf l.prog w K mg base "are_moves" ["office", "many", "thing"] 5 (sp_are_moves K COffice) := ⟨_, _, PySem.W.mg_of X G a26, k26, b26, ok_are_moves (P := l.prog) (w := w) (mg := mg) (base := base) F26 Tx G_is_move G_many_of⟩
  have G_are_tells : Gf l.prog w K mg base "are_tells" ["many", "thing"] 3 sp_are_tells := ⟨_, _, PySem.W.mg_of X G a27, k27, b27, ok_are_tells (P := l.prog) (w := w) (mg := mg) (base := base) F27 Tx G_all_notes G_is_within G_product_of⟩
  have C_Machine : Gc l.prog w K mg base "Machine" CMachine ["self", "office", "many", "moves", "tells"] 6 (sp_Machine_init K COffice CMachine) := ⟨_, _, PySem.W.mg_of X G aMachine, ⟨mkMachine, a28, i28, kcMachine⟩, b28, ok_Machine_init (P := l.prog) (w := w) (mg := mg) (base := base) F28 Tx G_are_many G_are_moves G_are_tells⟩
  have G_first_notes : Gf l.prog w K mg base "first_notes" ["machine"] 1 (sp_first_notes K COffice CMachine) := ⟨_, _, PySem.W.mg_of X G a29, k29, b29, ok_first_notes (P := l.prog) (w := w) (mg := mg) (base := base) F29 Tx ⟩
  have G_moved : Gf l.prog w K mg base "moved" ["machine", "notes", "work"] 1 (sp_moved K COffice CMachine) := ⟨_, _, PySem.W.mg_of X G a30, k30, b30, ok_moved (P := l.prog) (w := w) (mg := mg) (base := base) F30 Tx ⟩
  have G_notes_there : Gf l.prog w K mg base "notes_there" ["machine", "row"] 2 (sp_notes_there K COffice CMachine) := ⟨_, _, PySem.W.mg_of X G a31, k31, b31, ok_notes_there (P := l.prog) (w := w) (mg := mg) (base := base) F31 Tx G_first_notes G_moved⟩
  have G_told_there : Gf l.prog w K mg base "told_there" ["machine", "row"] 6 (sp_told_there K COffice CMachine) := ⟨_, _, PySem.W.mg_of X G a32, k32, b32, ok_told_there (P := l.prog) (w := w) (mg := mg) (base := base) F32 Tx G_check_row G_notes_there⟩
  have G_met_notes : Gf l.prog w K mg base "met_notes" ["machine"] 2 (sp_met_notes K COffice CMachine) := ⟨_, _, PySem.W.mg_of X G a33, k33, b33, ok_met_notes (P := l.prog) (w := w) (mg := mg) (base := base) F33 Tx G_first_notes G_moved⟩
  have G_book_of : Gf l.prog w K mg base "book_of" ["machine"] 5 (sp_book_of K COffice CMachine) := ⟨_, _, PySem.W.mg_of X G a34, k34, b34, ok_book_of (P := l.prog) (w := w) (mg := mg) (base := base) F34 Tx G_met_notes G_moved G_raw_book⟩
  have G_wrong_row : Gf l.prog w K mg base "wrong_row" ["book", "machine"] 6 (sp_wrong_row K COffice CMachine) := ⟨_, _, PySem.W.mg_of X G a35, k35, b35, ok_wrong_row (P := l.prog) (w := w) (mg := mg) (base := base) F35 Tx G_book_of G_check_match G_row_that_parts⟩
  have G_is_for : Gf l.prog w K mg base "is_for" ["book", "thing"] 6 (sp_is_for K COffice CMachine) := ⟨_, _, PySem.W.mg_of X G a36, k36, b36, ok_is_for (P := l.prog) (w := w) (mg := mg) (base := base) F36 Tx T_Machine G_book_of G_row_that_parts F_Office_eq n_Office b5⟩
  have G_law_dice : Gf l.prog w K mg base "_law_dice" ["_law_script"] 1 (sp_law_dice K) := ⟨_, _, PySem.W.mg_of X G a37, k37, b37, ok_law_dice (P := l.prog) (w := w) (mg := mg) (base := base) F37 Tx ⟩
  have G_law_draw : Gf l.prog w K mg base "_law_draw" ["_law_dice_here", "_law_sides"] 1 sp_law_draw := ⟨_, _, PySem.W.mg_of X G a38, k38, b38, ok_law_draw (P := l.prog) (w := w) (mg := mg) (base := base) F38 Tx ⟩
  have G_law_parts : Gf l.prog w K mg base "_law_parts" ["_law_dice_here", "_law_most"] 2 sp_law_parts := ⟨_, _, PySem.W.mg_of X G a39, k39, b39, ok_law_parts (P := l.prog) (w := w) (mg := mg) (base := base) F39 Tx G_law_draw⟩
  have G_law_made : Gf l.prog w K mg base "_law_made" ["_law_parts_here"] 7 (sp_law_made K COffice) := ⟨_, _, PySem.W.mg_of X G a40, k40, b40, ok_law_made (P := l.prog) (w := w) (mg := mg) (base := base) F40 Tx C_Office⟩
  have G_law_row : Gf l.prog w K mg base "_law_row" ["_law_dice_here", "_law_parts_here", "_law_most"] 2 sp_law_row := ⟨_, _, PySem.W.mg_of X G a41, k41, b41, ok_law_row (P := l.prog) (w := w) (mg := mg) (base := base) F41 Tx G_law_draw⟩
  have G_law_all_notes : Gf l.prog w K mg base "_law_all_notes" ["_law_many"] 1 sp_law_all_notes := ⟨_, _, PySem.W.mg_of X G a42, k42, b42, ok_law_all_notes (P := l.prog) (w := w) (mg := mg) (base := base) F42 Tx ⟩
  have G_law_machine_parts : Gf l.prog w K mg base "_law_machine_parts" ["_law_dice_here", "_law_parts_here"] 2 sp_law_machine_parts := ⟨_, _, PySem.W.mg_of X G a43, k43, b43, ok_law_machine_parts (P := l.prog) (w := w) (mg := mg) (base := base) F43 Tx G_law_all_notes G_law_draw⟩
  have G_law_machine : Gf l.prog w K mg base "_law_machine" ["_law_office", "_law_machine_here"] 8 (sp_law_machine K COffice CMachine) := ⟨_, _, PySem.W.mg_of X G a44, k44, b44, ok_law_machine (P := l.prog) (w := w) (mg := mg) (base := base) F44 Tx fcMachine C_Machine⟩
  have G_law_moved : Gf l.prog w K mg base "_law_moved" ["_law_parts_here", "_law_machine_here", "_law_notes_here", "_law_work"] 1 sp_law_moved := ⟨_, _, PySem.W.mg_of X G a45, k45, b45, ok_law_moved (P := l.prog) (w := w) (mg := mg) (base := base) F45 Tx ⟩
  have G_law_met : Gf l.prog w K mg base "_law_met" ["_law_parts_here", "_law_machine_here"] 2 sp_law_met := ⟨_, _, PySem.W.mg_of X G a46, k46, b46, ok_law_met (P := l.prog) (w := w) (mg := mg) (base := base) F46 Tx G_law_moved⟩
  have G_law_joined : Gf l.prog w K mg base "_law_joined" ["_law_parts_here", "_law_machine_here"] 3 sp_law_joined := ⟨_, _, PySem.W.mg_of X G a47, k47, b47, ok_law_joined (P := l.prog) (w := w) (mg := mg) (base := base) F47 Tx G_law_met G_law_moved⟩
  have G_law_some_book : Gf l.prog w K mg base "_law_some_book" ["_law_dice_here", "_law_parts_here", "_law_made_here"] 4 sp_law_some_book := ⟨_, _, PySem.W.mg_of X G a48, k48, b48, ok_law_some_book (P := l.prog) (w := w) (mg := mg) (base := base) F48 Tx G_law_draw G_law_joined⟩
  have G_law_wrong : Gf l.prog w K mg base "_law_wrong" ["_law_parts_here", "_law_made_here", "_law_telling", "_law_steps"] 2 sp_law_wrong := ⟨_, _, PySem.W.mg_of X G a49, k49, b49, ok_law_wrong (P := l.prog) (w := w) (mg := mg) (base := base) F49 Tx G_law_moved⟩
  exact ok_law (P := l.prog) (w := w) (mg := mg) (base := base) F50 Tx fcBook C_Book G_law_dice G_law_machine G_law_machine_parts G_law_made G_law_parts G_law_row G_law_some_book G_law_wrong G_is_for G_told G_told_there G_wrong_row
theorem walk {l : PySem.W.OpenLaw} {q : Program} {loose : List Str} {XP : (Str → Option Value) → Heap → Prop} {YP : World → Heap → Prop} {d : DefRec} {K : Params → PySem.W.Frag} (hn : l.most = some 63) (hdf : d.params.defaults = [])
    (hY : ∀ (w : World) (h : Heap), YP w h → (K w.params).In h)
    (F : ∀ (w : World) (mg : Str → Option Value) (fa : Addr) (h : Heap), (K w.params).In h → h.Ns mainGlobals mg → mg d.name = some (.ref fa) →
      ∃ fd : FuncData, (∀ (s : Shared) (u : Value), BindsTo s fd ⟨[u], []⟩ [("_law_script", u)]) ∧ ∀ base : Heap, (K w.params).In base → base.Ns mainGlobals mg → FnOk l.prog w (K w.params) mg base CX0 9 fa fd ["_law_script"] (sp_law (K w.params))) :
    PySem.W.WalkO q loose XP YP l.row.toRowW d [] (fun f vs => PySem.call f vs) :=
  L2.walk_of (n := 63) (k := 9) (x := "_law_script") (CX := fun _ => CX0) (sp := fun w => sp_law (K w.params)) hn (by decide) hdf ⟨rfl, by decide, by decide⟩ hY F (fun _ _ a ns hl _ hS => ⟨a, ns, rfl, hS, hl, fun _ => rfl⟩) fun _ _ _ _ _ z => z
end LW
open PySem PySem.W PyProof.Rows
set_option maxRecDepth 100000 in
set_option maxHeartbeats 0 in
theorem PySem.Challenge.cw_latestword_k64_whole_least_rows_that_are_holds : PySem.Challenge.rw_latestword_k64_whole_least_rows_that_are.Holds := by
  w_on; o_law; k_head; (case hw => w_witness2)
  k_fill
  refine LW.walk (l := PySem.Challenge.rw_latestword_k64_whole_least_rows_that_are) rfl rfl (fun w h Y => PySem.W.kIn_of Y) ?F
  case F =>
    intro w mg fa h KX G hmg
    refine' LW.all_mk KX G hmg ?aOffice ?pgOffice ?hdOffice ?poOffice ?saOffice ?mkOffice ?kcOffice ?ckOffice ?cmOffice ?nOffice_desks ?nOffice_works ?nOffice_kept_own ?nOffice_kept_meets ?aBook ?pgBook ?hdBook ?poBook ?saBook ?mkBook ?kcBook ?ckBook ?cmBook ?nBook_office ?nBook_telling ?nBook_steps ?aRawBook ?pgRawBook ?hdRawBook ?poRawBook ?saRawBook ?mkRawBook ?kcRawBook ?ckRawBook ?cmRawBook ?nRawBook_office ?nRawBook_telling ?nRawBook_steps ?aMachine ?pgMachine ?hdMachine ?poMachine ?saMachine ?mkMachine ?kcMachine ?ckMachine ?cmMachine ?nMachine_office ?nMachine_many ?nMachine_kept_moves ?nMachine_kept_tells ?cn ?ctk ?z_isinstance ?z_int ?z_bool ?z_tuple ?z_dict ?z_list ?z_len ?z_all ?z_any ?z_range ?z_enumerate ?z_zip ?z_sorted ?z_abs ?z_MOST_DESKS ?z_MOST_WORKS ?z_MOST_STANDINGS ?z_MOST_TOLD_books ?z_MOST_NOTES ?z_MOST_TUPLES ?z_MOST_TOLD_machines ?a0 ?l0 ?c0 ?k0 ?a1 ?l1 ?c1 ?k1 ?a2 ?l2 ?c2 ?k2 ?a3 ?l3 ?c3 ?k3 ?a4 ?i4 ?l4 ?c4 ?k4 ?eC ?eL ?eAll ?eEq ?eNe ?l5 ?c5 ?k5 ?a6 ?l6 ?c6 ?k6 ?a7 ?l7 ?c7 ?k7 ?a8 ?l8 ?c8 ?k8 ?a9 ?l9 ?c9 ?k9 ?a10 ?l10 ?c10 ?k10 ?a11 ?i11 ?r11 ?l11 ?c11 ?k11 ?a12 ?i12 ?l12 ?c12 ?k12 ?a13 ?i13 ?l13 ?c13 ?k13 ?a14 ?l14 ?c14 ?k14 ?a15 ?l15 ?c15 ?k15 ?a16 ?l16 ?c16 ?k16 ?a17 ?l17 ?c17 ?k17 ?a18 ?l18 ?c18 ?k18 ?a19 ?l19 ?c19 ?k19 ?a20 ?l20 ?c20 ?k20 ?a21 ?l21 ?c21 ?k21 ?a22 ?l22 ?c22 ?k22 ?a23 ?l23 ?c23 ?k23 ?a24 ?l24 ?c24 ?k24 ?a25 ?l25 ?c25 ?k25 ?a26 ?l26 ?c26 ?k26 ?a27 ?l27 ?c27 ?k27 ?a28 ?i28 ?l28 ?c28 ?k28 ?a29 ?l29 ?c29 ?k29 ?a30 ?l30 ?c30 ?k30 ?a31 ?l31 ?c31 ?k31 ?a32 ?l32 ?c32 ?k32 ?a33 ?l33 ?c33 ?k33 ?a34 ?l34 ?c34 ?k34 ?a35 ?l35 ?c35 ?k35 ?a36 ?l36 ?c36 ?k36 ?a37 ?l37 ?c37 ?k37 ?a38 ?l38 ?c38 ?k38 ?a39 ?l39 ?c39 ?k39 ?a40 ?l40 ?c40 ?k40 ?a41 ?l41 ?c41 ?k41 ?a42 ?l42 ?c42 ?k42 ?a43 ?l43 ?c43 ?k43 ?a44 ?l44 ?c44 ?k44 ?a45 ?l45 ?c45 ?k45 ?a46 ?l46 ?c46 ?k46 ?a47 ?l47 ?c47 ?k47 ?a48 ?l48 ?c48 ?k48 ?a49 ?l49 ?c49 ?k49 ?a50 ?l50 ?c50 ?k50
    (case aOffice => k_is)
    (case pgOffice => k_is)
    (case hdOffice => k_is)
    (case poOffice => k_is)
    (case saOffice => k_is)
    (case mkOffice => k_is)
    (case kcOffice => k_is)
    (case ckOffice => k_is)
    (case cmOffice => k_is)
    (case nOffice_desks => k_is)
    (case nOffice_works => k_is)
    (case nOffice_kept_own => k_is)
    (case nOffice_kept_meets => k_is)
    (case aBook => k_is)
    (case pgBook => k_is)
    (case hdBook => k_is)
    (case poBook => k_is)
    (case saBook => k_is)
    (case mkBook => k_is)
    (case kcBook => k_is)
    (case ckBook => k_is)
    (case cmBook => k_is)
    (case nBook_office => k_is)
    (case nBook_telling => k_is)
    (case nBook_steps => k_is)
    (case aRawBook => k_is)
    (case pgRawBook => k_is)
    (case hdRawBook => k_is)
    (case poRawBook => k_is)
    (case saRawBook => k_is)
    (case mkRawBook => k_is)
    (case kcRawBook => k_is)
    (case ckRawBook => k_is)
    (case cmRawBook => k_is)
    (case nRawBook_office => k_is)
    (case nRawBook_telling => k_is)
    (case nRawBook_steps => k_is)
    (case aMachine => k_is)
    (case pgMachine => k_is)
    (case hdMachine => k_is)
    (case poMachine => k_is)
    (case saMachine => k_is)
    (case mkMachine => k_is)
    (case kcMachine => k_is)
    (case ckMachine => k_is)
    (case cmMachine => k_is)
    (case nMachine_office => k_is)
    (case nMachine_many => k_is)
    (case nMachine_kept_moves => k_is)
    (case nMachine_kept_tells => k_is)
    (case cn => k_is)
    (case ctk => k_is)
    (case z_isinstance => k_is)
    (case z_int => k_is)
    (case z_bool => k_is)
    (case z_tuple => k_is)
    (case z_dict => k_is)
    (case z_list => k_is)
    (case z_len => k_is)
    (case z_all => k_is)
    (case z_any => k_is)
    (case z_range => k_is)
    (case z_enumerate => k_is)
    (case z_zip => k_is)
    (case z_sorted => k_is)
    (case z_abs => k_is)
    (case z_MOST_DESKS => k_is)
    (case z_MOST_WORKS => k_is)
    (case z_MOST_STANDINGS => k_is)
    (case z_MOST_TOLD_books => k_is)
    (case z_MOST_NOTES => k_is)
    (case z_MOST_TUPLES => k_is)
    (case z_MOST_TOLD_machines => k_is)
    (case a0 => k_is)
    (case l0 => k_is)
    (case c0 => k_is)
    (case k0 => k_is)
    (case a1 => k_is)
    (case l1 => k_is)
    (case c1 => k_is)
    (case k1 => k_is)
    (case a2 => k_is)
    (case l2 => k_is)
    (case c2 => k_is)
    (case k2 => k_is)
    (case a3 => k_is)
    (case l3 => k_is)
    (case c3 => k_is)
    (case k3 => k_is)
    (case a4 => k_is)
    (case i4 => k_is)
    (case l4 => k_is)
    (case c4 => k_is)
    (case k4 => k_is)
    (case eC => k_is)
    (case eL => k_is)
    (case eAll => rfl)
    (case eEq => k_is)
    (case eNe => k_is)
    (case l5 => k_is)
    (case c5 => k_is)
    (case k5 => k_is)
    (case a6 => k_is)
    (case l6 => k_is)
    (case c6 => k_is)
    (case k6 => k_is)
    (case a7 => k_is)
    (case l7 => k_is)
    (case c7 => k_is)
    (case k7 => k_is)
    (case a8 => k_is)
    (case l8 => k_is)
    (case c8 => k_is)
    (case k8 => k_is)
    (case a9 => k_is)
    (case l9 => k_is)
    (case c9 => k_is)
    (case k9 => k_is)
    (case a10 => k_is)
    (case l10 => k_is)
    (case c10 => k_is)
    (case k10 => k_is)
    (case a11 => k_is)
    (case i11 => k_is)
    (case r11 => k_is)
    (case l11 => k_is)
    (case c11 => k_is)
    (case k11 => k_is)
    (case a12 => k_is)
    (case i12 => k_is)
    (case l12 => k_is)
    (case c12 => k_is)
    (case k12 => k_is)
    (case a13 => k_is)
    (case i13 => k_is)
    (case l13 => k_is)
    (case c13 => k_is)
    (case k13 => k_is)
    (case a14 => k_is)
    (case l14 => k_is)
    (case c14 => k_is)
    (case k14 => k_is)
    (case a15 => k_is)
    (case l15 => k_is)
    (case c15 => k_is)
    (case k15 => k_is)
    (case a16 => k_is)
    (case l16 => k_is)
    (case c16 => k_is)
    (case k16 => k_is)
    (case a17 => k_is)
    (case l17 => k_is)
    (case c17 => k_is)
    (case k17 => k_is)
    (case a18 => k_is)
    (case l18 => k_is)
    (case c18 => k_is)
    (case k18 => k_is)
    (case a19 => k_is)
    (case l19 => k_is)
    (case c19 => k_is)
    (case k19 => k_is)
    (case a20 => k_is)
    (case l20 => k_is)
    (case c20 => k_is)
    (case k20 => k_is)
    (case a21 => k_is)
    (case l21 => k_is)
    (case c21 => k_is)
    (case k21 => k_is)
    (case a22 => k_is)
    (case l22 => k_is)
    (case c22 => k_is)
    (case k22 => k_is)
    (case a23 => k_is)
    (case l23 => k_is)
    (case c23 => k_is)
    (case k23 => k_is)
    (case a24 => k_is)
    (case l24 => k_is)
    (case c24 => k_is)
    (case k24 => k_is)
    (case a25 => k_is)
    (case l25 => k_is)
    (case c25 => k_is)
    (case k25 => k_is)
    (case a26 => k_is)
    (case l26 => k_is)
    (case c26 => k_is)
    (case k26 => k_is)
    (case a27 => k_is)
    (case l27 => k_is)
    (case c27 => k_is)
    (case k27 => k_is)
    (case a28 => k_is)
    (case i28 => k_is)
    (case l28 => k_is)
    (case c28 => k_is)
    (case k28 => k_is)
    (case a29 => k_is)
    (case l29 => k_is)
    (case c29 => k_is)
    (case k29 => k_is)
    (case a30 => k_is)
    (case l30 => k_is)
    (case c30 => k_is)
    (case k30 => k_is)
    (case a31 => k_is)
    (case l31 => k_is)
    (case c31 => k_is)
    (case k31 => k_is)
    (case a32 => k_is)
    (case l32 => k_is)
    (case c32 => k_is)
    (case k32 => k_is)
    (case a33 => k_is)
    (case l33 => k_is)
    (case c33 => k_is)
    (case k33 => k_is)
    (case a34 => k_is)
    (case l34 => k_is)
    (case c34 => k_is)
    (case k34 => k_is)
    (case a35 => k_is)
    (case l35 => k_is)
    (case c35 => k_is)
    (case k35 => k_is)
    (case a36 => k_is)
    (case l36 => k_is)
    (case c36 => k_is)
    (case k36 => k_is)
    (case a37 => k_is)
    (case l37 => k_is)
    (case c37 => k_is)
    (case k37 => k_is)
    (case a38 => k_is)
    (case l38 => k_is)
    (case c38 => k_is)
    (case k38 => k_is)
    (case a39 => k_is)
    (case l39 => k_is)
    (case c39 => k_is)
    (case k39 => k_is)
    (case a40 => k_is)
    (case l40 => k_is)
    (case c40 => k_is)
    (case k40 => k_is)
    (case a41 => k_is)
    (case l41 => k_is)
    (case c41 => k_is)
    (case k41 => k_is)
    (case a42 => k_is)
    (case l42 => k_is)
    (case c42 => k_is)
    (case k42 => k_is)
    (case a43 => k_is)
    (case l43 => k_is)
    (case c43 => k_is)
    (case k43 => k_is)
    (case a44 => k_is)
    (case l44 => k_is)
    (case c44 => k_is)
    (case k44 => k_is)
    (case a45 => k_is)
    (case l45 => k_is)
    (case c45 => k_is)
    (case k45 => k_is)
    (case a46 => k_is)
    (case l46 => k_is)
    (case c46 => k_is)
    (case k46 => k_is)
    (case a47 => k_is)
    (case l47 => k_is)
    (case c47 => k_is)
    (case k47 => k_is)
    (case a48 => k_is)
    (case l48 => k_is)
    (case c48 => k_is)
    (case k48 => k_is)
    (case a49 => k_is)
    (case l49 => k_is)
    (case c49 => k_is)
    (case k49 => k_is)
    (case a50 => k_is)
    (case l50 => k_is)
    (case c50 => k_is)
    (case k50 => k_is)
